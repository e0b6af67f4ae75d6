import PyProof.Rows.All
import KE.KeyNested
import Wide.All
import OpenK.AllK
import Wide.FinOn
import KE.KDictKeyed
import HandS.ForMost
import HandS.SetKeys
import KE.KItemsList
import HandS.Zip
import HandS.ListItems
import KE.KDictItemsList
import HandS.Walk
import KE.GoesMore
import PyProof.EnumMake
import HandS.DictComp
import HandS.Conv
import HandS.TupSets
import HandS.Keys
import KE.KAssignIn
import KE.KDictDisplayH
import HandS.IsInst
import KE.Datum
import HandS.Defaults
import HandS.Star
import HandS.Deep
import HandS.Style
import HandS.Flow
import HandS.TupAny
import HandS.NoneIn
import PySem.Challenge.RW_anchorpages_k47_whole_papers_of_equality
import KE.KStateDown
import Lean
import HandS.WordsExc
import HandS.Codes
import HandS.Head0
import HandS.Head1
import HandS.Head2
import HandS.HeadEnd
import HandS.HeadHook1
import HandS.HeadHook2
set_option Elab.async false
set_option maxRecDepth 100000
/-! Numbers by first places, and what they tell. -/
namespace Ap
section
variable {κ μ : Type} [DecidableEq κ] [DecidableEq μ]
def ddS (acc : List κ) (k : κ) : List κ := if k ∈ acc then acc else acc ++ [k]
/-- the different ones, by their first places -/
def dd (ks : List κ) : List κ := ks.foldl ddS []
def numd (ks : List κ) : List Nat := ks.map fun k => (dd ks).idxOf k
theorem dd_snoc (ks : List κ) (k : κ) : dd (ks ++ [k]) = ddS (dd ks) k := by
  unfold dd
  rw [List.foldl_append]
  rfl
theorem mem_ddS {acc : List κ} {k x : κ} : x ∈ ddS acc k ↔ x ∈ acc ∨ x = k := by
  unfold ddS
  split
  · rename_i h
    constructor
    · exact .inl
    · rintro (q | rfl)
      · exact q
      · exact h
  · simp
theorem mem_fold {x : κ} : ∀ (ks acc : List κ), x ∈ ks.foldl ddS acc ↔ x ∈ acc ∨ x ∈ ks
  | [], acc => by simp
  | k :: ks, acc => by
    rw [List.foldl_cons, mem_fold ks, mem_ddS, List.mem_cons, or_assoc]
theorem mem_dd {ks : List κ} {x : κ} : x ∈ dd ks ↔ x ∈ ks := by
  unfold dd
  rw [mem_fold]
  simp
theorem nodup_fold : ∀ (ks acc : List κ), acc.Nodup → (ks.foldl ddS acc).Nodup
  | [], _, h => h
  | k :: ks, acc, h => by
    rw [List.foldl_cons]
    refine nodup_fold ks _ ?_
    unfold ddS
    split
    · exact h
    · rename_i hk
      rw [List.nodup_append]
      refine ⟨h, by simp, fun a ha b hb e => ?_⟩
      have : b = k := by simpa using hb
      subst this
      subst e
      exact hk ha
theorem nodup_dd (ks : List κ) : (dd ks).Nodup := nodup_fold ks [] List.nodup_nil
theorem idx_app {l m : List κ} {x : κ} (h : x ∈ l) : (l ++ m).idxOf x = l.idxOf x := by
  rw [List.idxOf_append, if_pos h]
theorem idx_ddS {acc : List κ} {k x : κ} (h : x ∈ acc) : (ddS acc k).idxOf x = acc.idxOf x := by
  unfold ddS
  split
  · rfl
  · exact idx_app h
theorem idx_new {acc : List κ} {k : κ} (h : k ∉ acc) : (ddS acc k).idxOf k = acc.length := by
  unfold ddS
  rw [if_neg h, List.idxOf_append, if_neg h]
  simp
theorem numd_snoc (ks : List κ) (k : κ) : numd (ks ++ [k]) = numd ks ++ [(ddS (dd ks) k).idxOf k] := by
  unfold numd
  rw [List.map_append, dd_snoc]
  congr 1
  refine List.map_congr_left fun x hx => ?_
  exact idx_ddS (mem_dd.mpr hx)
theorem dd_len (ks : List κ) : (dd ks).length ≤ ks.length := by
  have : ∀ (ks acc : List κ), (ks.foldl ddS acc).length ≤ acc.length + ks.length := by
    intro ks
    induction ks with
    | nil => intro acc; simp
    | cons k ks ih =>
      intro acc
      rw [List.foldl_cons]
      have h1 := ih (ddS acc k)
      have h2 : (ddS acc k).length ≤ acc.length + 1 := by
        unfold ddS
        split
        · omega
        · simp
      rw [List.length_cons]
      omega
  have q := this ks []
  unfold dd
  simpa using q
theorem numd_length (ks : List κ) : (numd ks).length = ks.length := by unfold numd; rw [List.length_map]
theorem idx_inj {l : List κ} {x y : κ} (hx : x ∈ l) (hy : y ∈ l) (e : l.idxOf x = l.idxOf y) : x = y := by
  have h1 : l[l.idxOf x]'(List.idxOf_lt_length_of_mem hx) = x := List.getElem_idxOf _
  have h2 : l[l.idxOf y]'(List.idxOf_lt_length_of_mem hy) = y := List.getElem_idxOf _
  rw [← h1, ← h2]
  congr 1
theorem numd_get {ks : List κ} {i : Nat} {k : κ} (h : ks[i]? = some k) : (numd ks)[i]? = some ((dd ks).idxOf k) := by
  unfold numd
  rw [List.getElem?_map, h]
  rfl
/-- equal numbers: equal keys -/
theorem numd_eq {ks : List κ} {i j : Nat} {x y : κ} (hi : ks[i]? = some x) (hj : ks[j]? = some y) : (numd ks)[i]? = (numd ks)[j]? ↔ x = y := by
  rw [numd_get hi, numd_get hj]
  constructor
  · intro e
    exact idx_inj (mem_dd.mpr (List.mem_of_getElem? hi)) (mem_dd.mpr (List.mem_of_getElem? hj)) (Option.some.inj e)
  · rintro rfl
    rfl
/-- numbers lie below -/
theorem numd_lt {ks : List κ} {i n : Nat} (h : (numd ks)[i]? = some n) : n < ks.length := by
  obtain ⟨hi, e⟩ := List.getElem?_eq_some_iff.mp h
  rw [numd_length] at hi
  have e2 := numd_get (List.getElem?_eq_getElem hi)
  rw [h] at e2
  have e3 := Option.some.inj e2
  have m : ks[i] ∈ dd ks := mem_dd.mpr (List.getElem_mem hi)
  have l1 := List.idxOf_lt_length_of_mem m
  have l2 : (dd ks).length ≤ ks.length := by
    have : ∀ (ks acc : List κ), (ks.foldl ddS acc).length ≤ acc.length + ks.length := by
      intro ks
      induction ks with
      | nil => intro acc; simp
      | cons k ks ih =>
        intro acc
        rw [List.foldl_cons]
        have h1 := ih (ddS acc k)
        have h2 : (ddS acc k).length ≤ acc.length + 1 := by
          unfold ddS
          split
          · omega
          · simp
        rw [List.length_cons]
        omega
    have q := this ks []
    unfold dd
    simpa using q
  omega
/-- the same pattern: the same numbers -/
theorem numd_same : ∀ (n : Nat) (ks : List κ) (ls : List μ), ks.length = n → ls.length = n →
    (∀ (i j : Nat) (x y : κ) (u v : μ), ks[i]? = some x → ks[j]? = some y → ls[i]? = some u → ls[j]? = some v → (x = y ↔ u = v)) → numd ks = numd ls ∧ (dd ks).length = (dd ls).length
  | 0, ks, ls, h1, h2, _ => by
    have e1 : ks = [] := List.eq_nil_of_length_eq_zero h1
    have e2 : ls = [] := List.eq_nil_of_length_eq_zero h2
    subst e1 e2
    exact ⟨rfl, rfl⟩
  | n + 1, ks, ls, h1, h2, h => by
    have n1 : ks ≠ [] := by rintro rfl; simp at h1
    have n2 : ls ≠ [] := by rintro rfl; simp at h2
    obtain ⟨ks', k, rfl⟩ : ∃ a b, ks = a ++ [b] := ⟨_, _, (List.dropLast_concat_getLast n1).symm⟩
    obtain ⟨ls', l, rfl⟩ : ∃ a b, ls = a ++ [b] := ⟨_, _, (List.dropLast_concat_getLast n2).symm⟩
    have l1 : ks'.length = n := by simpa using h1
    have l2 : ls'.length = n := by simpa using h2
    have up1 : ∀ {i : Nat} {x : κ}, ks'[i]? = some x → (ks' ++ [k])[i]? = some x := fun {i x} e => by
      rw [List.getElem?_append_left (List.getElem?_eq_some_iff.mp e).1]; exact e
    have up2 : ∀ {i : Nat} {x : μ}, ls'[i]? = some x → (ls' ++ [l])[i]? = some x := fun {i x} e => by
      rw [List.getElem?_append_left (List.getElem?_eq_some_iff.mp e).1]; exact e
    obtain ⟨e1, e2⟩ := numd_same n ks' ls' l1 l2 fun i j x y u v a b c d => h i j x y u v (up1 a) (up1 b) (up2 c) (up2 d)
    have last1 : (ks' ++ [k])[n]? = some k := by rw [← l1]; simp
    have last2 : (ls' ++ [l])[n]? = some l := by rw [← l2]; simp
    rw [numd_snoc, numd_snoc, dd_snoc, dd_snoc, e1]
    by_cases hk : k ∈ dd ks'
    · obtain ⟨i, hi⟩ := List.mem_iff_getElem?.mp (mem_dd.mp hk)
      have hil : i < ls'.length := by rw [l2, ← l1]; exact (List.getElem?_eq_some_iff.mp hi).1
      have hu : ls'[i]? = some ls'[i] := List.getElem?_eq_getElem hil
      have eu : ls'[i] = l := (h i n k k _ l (up1 hi) last1 (up2 hu) last2).mp rfl
      rw [eu] at hu
      have hl : l ∈ dd ls' := mem_dd.mpr (List.mem_of_getElem? hu)
      have g1 := numd_get hi
      have g2 := numd_get hu
      rw [e1, g2] at g1
      have g3 := Option.some.inj g1
      refine ⟨?_, ?_⟩
      · rw [idx_ddS hk, idx_ddS hl, g3]
      · unfold ddS
        rw [if_pos hk, if_pos hl]
        exact e2
    · have hl : l ∉ dd ls' := fun z => by
        obtain ⟨i, hi⟩ := List.mem_iff_getElem?.mp (mem_dd.mp z)
        have hil : i < ks'.length := by rw [l1, ← l2]; exact (List.getElem?_eq_some_iff.mp hi).1
        have hu : ks'[i]? = some ks'[i] := List.getElem?_eq_getElem hil
        have eu : ks'[i] = k := (h i n _ k l l (up1 hu) last1 (up2 hi) last2).mpr rfl
        rw [eu] at hu
        exact hk (mem_dd.mpr (List.mem_of_getElem? hu))
      refine ⟨?_, ?_⟩
      · rw [idx_new hk, idx_new hl, e2]
      · unfold ddS
        rw [if_neg hk, if_neg hl]
        simp [e2]
end

/-! ### how many pairs are together -/
def sq2 (n : Nat) : List (Nat × Nat) := (List.range n).flatMap fun i => (List.range n).map fun j => (i, j)
theorem mem_sq2 {n i j : Nat} : (i, j) ∈ sq2 n ↔ i < n ∧ j < n := by
  unfold sq2
  simp
def tog (c : List Nat) : Nat := (sq2 c.length).countP fun p => decide (c[p.1]? = c[p.2]?)
theorem countP_less {α : Type} {p q : α → Bool} : ∀ {l : List α}, (∀ x ∈ l, p x = true → q x = true) → (∃ x ∈ l, q x = true ∧ p x = false) → l.countP p < l.countP q
  | [], _, h => by obtain ⟨x, hx, _⟩ := h; simp at hx
  | a :: l, h, hx => by
    rw [List.countP_cons, List.countP_cons]
    have m : l.countP p ≤ l.countP q := List.countP_mono_left fun x hx => h x (List.mem_cons_of_mem _ hx)
    obtain ⟨x, hx, hq, hp⟩ := hx
    rcases List.mem_cons.mp hx with rfl | hx
    · rw [hq, hp]
      simp
      omega
    · have ih := countP_less (fun x hx => h x (List.mem_cons_of_mem _ hx)) ⟨x, hx, hq, hp⟩
      have ha := h a (List.mem_cons_self ..)
      cases e1 : p a <;> cases e2 : q a <;> simp [e1, e2] at ha ⊢ <;> omega
/-- c' is finer than c, both are numbers by first places, c' is another one: fewer pairs are together -/
theorem tog_less {κ μ : Type} [DecidableEq κ] [DecidableEq μ] {ks : List κ} {ls : List μ} (hl : ls.length = ks.length)
    (fine : ∀ i j : Nat, i < ks.length → j < ks.length → (numd ls)[i]? = (numd ls)[j]? → (numd ks)[i]? = (numd ks)[j]?) (ne : numd ls ≠ numd ks) : tog (numd ls) < tog (numd ks) := by
  have n1 : (numd ks).length = ks.length := numd_length ks
  have n2 : (numd ls).length = ks.length := (numd_length ls).trans hl
  unfold tog
  rw [n1, n2]
  refine countP_less (fun p hp e => ?_) ?_
  · have e' : (numd ls)[p.1]? = (numd ls)[p.2]? := of_decide_eq_true e
    obtain ⟨h1, h2⟩ := mem_sq2.mp (show (p.1, p.2) ∈ sq2 ks.length from hp)
    exact decide_eq_true (fine _ _ h1 h2 e')
  · refine Classical.byContradiction fun no => ne ?_
    refine (numd_same ks.length ls ks hl rfl fun i j x y u v hx hy hu hv => ?_).1
    have hi : i < ks.length := (List.getElem?_eq_some_iff.mp hu).1
    have hj : j < ks.length := (List.getElem?_eq_some_iff.mp hv).1
    have a := numd_eq hx hy
    have b := numd_eq hu hv
    constructor
    · intro e
      exact b.mp (fine i j hi hj (a.mpr e))
    · intro e
      refine Classical.byContradiction fun q => no ⟨(i, j), mem_sq2.mpr ⟨hi, hj⟩, decide_eq_true (b.mpr e), decide_eq_false fun z => q (a.mp z)⟩

/-! ### turns of a step -/
def iter {α : Type} (f : α → α) : Nat → α → α
  | 0, a => a
  | n + 1, a => f (iter f n a)
theorem iter_fix {α : Type} {f : α → α} {a : α} {n : Nat} (h : f (iter f n a) = iter f n a) : ∀ k, iter f (n + k) a = iter f n a
  | 0 => rfl
  | k + 1 => by
    show f (iter f (n + k) a) = _
    rw [iter_fix h k, h]
theorem iter_meet {α : Type} {f : α → α} {a : α} {m n : Nat} (hm : f (iter f m a) = iter f m a) (hn : f (iter f n a) = iter f n a) : iter f m a = iter f n a := by
  rcases Nat.le_total m n with h | h
  · obtain ⟨k, rfl⟩ := Nat.exists_eq_add_of_le h
    exact (iter_fix hm k).symm
  · obtain ⟨k, rfl⟩ := Nat.exists_eq_add_of_le h
    exact iter_fix hn k
end Ap
set_option Elab.async false
set_option linter.all false
set_option maxRecDepth 100000
set_option maxHeartbeats 2000000
/-! Dicts whose keys are nested tuples, over the layer. -/
namespace Ap
open PySem PySem.Spec PyProof.Rows L2
/-- tuples stay -/
def Ext (H H' : Hp) : Prop := ∀ b xs, H b = some (.tup xs) → H' b = some (.tup xs)
mutual
/-- the value v in the abstract heap is the key k -/
inductive KeyV (H : Hp) : NestedKey → V → Prop
  | none : KeyV H .none .non
  | num (i : Int) : KeyV H (.num i) (.int i)
  | text (x : Str) : KeyV H (.text x) (.str x)
  | tup {a : Addr} {vs : List V} {ks : List NestedKey} : H a = some (.tup vs) → KeyAll H ks vs → KeyV H (.tup ks) (.ref a)
inductive KeyAll (H : Hp) : List NestedKey → List V → Prop
  | nil : KeyAll H [] []
  | cons {k : NestedKey} {v : V} {ks : List NestedKey} {vs : List V} : KeyV H k v → KeyAll H ks vs → KeyAll H (k :: ks) (v :: vs)
end
mutual
theorem KeyV.ext {H H' : Hp} (e : Ext H H') : ∀ (k : NestedKey) (v : V), KeyV H k v → KeyV H' k v
  | .none, _, h => by cases h; exact .none
  | .num i, _, h => by cases h; exact .num i
  | .text x, _, h => by cases h; exact .text x
  | .tup ks, _, h => by
    cases h with
    | tup h1 h2 => exact .tup (e _ _ h1) (KeyAll.ext e ks _ h2)
theorem KeyAll.ext {H H' : Hp} (e : Ext H H') : ∀ (ks : List NestedKey) (vs : List V), KeyAll H ks vs → KeyAll H' ks vs
  | [], _, h => by cases h; exact .nil
  | k :: ks, _, h => by
    cases h with
    | cons h1 h2 => exact .cons (KeyV.ext e k _ h1) (KeyAll.ext e ks _ h2)
end
mutual
theorem KeyV.is {P : Program} {w : World} {H : Hp} {h : Heap} (ok : HOk P w H h) : ∀ (k : NestedKey) (v : V) (u : Value), KeyV H k v → RelV v u → NestedIs h k u
  | .none, _, _, q, r => by cases q; cases r; exact .none
  | .num i, _, _, q, r => by cases q; obtain ⟨t, rfl⟩ := r; exact .int i t
  | .text x, _, _, q, r => by cases q; obtain ⟨t, rfl⟩ := r; exact .text x t
  | .tup ks, _, _, q, r => by
    cases q with
    | tup h1 h2 =>
      cases r
      obtain ⟨_, its, rv, o, ho, hc, n, hd⟩ := ok _ _ h1
      exact .tup ho hc hd (by simpa using KeyAll.is ok ks _ _ h2 rv)
theorem KeyAll.is {P : Program} {w : World} {H : Hp} {h : Heap} (ok : HOk P w H h) : ∀ (ks : List NestedKey) (vs : List V) (us : List Value), KeyAll H ks vs → Vals vs us → NestedAll h ks us
  | [], _, _, q, r => by cases q; cases r; exact .nil
  | k :: ks, _, _, q, r => by
    cases q with
    | cons h1 h2 =>
      cases r with
      | cons r1 r2 => exact .cons (KeyV.is ok k _ _ h1 r1) (KeyAll.is ok ks _ _ h2 r2)
end
/-- entries: the key, the address where it stands, the value -/
abbrev Ent : Type := NestedKey × Addr × V
abbrev EntR : Ent → NestedKey × Addr × Value → Prop := fun p q => p.1 = q.1 ∧ p.2.1 = q.2.1 ∧ RelV p.2.2 q.2.2
def DNx (P : Program) (w : World) (h : Heap) (a : Addr) (kvs : List Ent) : Prop :=
  ∃ xs : List (NestedKey × Addr × Value), Paired EntR kvs xs ∧ ∃ o es ep, h.get? a = some o ∧ o.ExactDict ∧ o.data = .dict es ep ∧ es.toList = xs.map (entryOfKey (nestedKind P w)) ∧ (xs.map (·.1)).Nodup
def dN (P : Program) (w : World) (a : Addr) (kvs : List Ent) : HO := .ext fun h => kvs.length ≤ sizeLine ∧ (a == sysModules) = false ∧ DNx P w h a kvs
/-- the dict at a -/
structure DN (P : Program) (w : World) (H : Hp) (a : Addr) (kvs : List Ent) : Prop where
  at_ : H a = some (dN P w a kvs)
  keys : ∀ p ∈ kvs, KeyV H p.1 (.ref p.2.1) ∧ p.1.depth ≤ 8
theorem dN_ok {P : Program} {w : World} {H : Hp} {h : Heap} {a : Addr} {kvs : List Ent} (z : kvs.length ≤ sizeLine) (hd : (a == sysModules) = false) (d : DNx P w h a kvs) : ObjOk P w H h a (dN P w a kvs) := by
  obtain ⟨xs, r, o, es, ep, ho, q⟩ := d
  refine ⟨⟨z, hd, xs, r, o, es, ep, ho, q⟩, ⟨o, ho⟩, ?_⟩
  rintro h1 h2 ⟨z', hd', xs', r', o', es', ep', ho', q'⟩ k
  exact ⟨z', hd', xs', r', o', es', ep', k _ ho', q'⟩
theorem pget {α β : Type} {F : α → β → Prop} : ∀ {xs : List α} {ys : List β}, Paired F xs ys → ∀ {y : β}, y ∈ ys → ∃ x, x ∈ xs ∧ F x y
  | _, _, .cons h t, y, hy => by
    rcases List.mem_cons.mp hy with rfl | hy
    · exact ⟨_, List.mem_cons_self, h⟩
    · obtain ⟨x, h1, h2⟩ := pget t hy
      exact ⟨x, List.mem_cons_of_mem _ h1, h2⟩
theorem DN.raw {P : Program} {w : World} {H : Hp} {h : Heap} {a : Addr} {kvs : List Ent} (ok : HOk P w H h) (d : DN P w H a kvs) :
    kvs.length ≤ sizeLine ∧ (a == sysModules) = false ∧ ∃ xs : List (NestedKey × Addr × Value), Paired EntR kvs xs ∧ h.DictOfH (nestedKind P w) a xs := by
  obtain ⟨⟨z, hd, xs, r, o, es, ep, ho, hx, hdat, he, nd⟩, _⟩ := ok _ _ d.at_
  refine ⟨z, hd, xs, r, o, es, ep, ho, hx, hdat, he, fun x hm => ?_, nd⟩
  obtain ⟨p, hp, e1, e2, _⟩ := pget r hm
  obtain ⟨k1, k2⟩ := d.keys p hp
  rw [← e1, ← e2]
  exact ⟨KeyV.is ok _ _ _ k1 rfl, k2⟩
/-- the value of a key -/
def valN (kvs : List Ent) (k : NestedKey) : Option V := (kvs.find? fun p => decide (p.1 = k)).map (·.2.2)
theorem valN_at {k : NestedKey} : ∀ {kvs : List Ent} {xs : List (NestedKey × Addr × Value)}, Paired EntR kvs xs → RelO (valN kvs k) ((atKey xs k).map (·.2))
  | _, _, .nil => trivial
  | p :: kvs, q :: xs, .cons h t => by
    have ih := valN_at (k := k) t
    unfold valN atKey at ih ⊢
    rw [List.find?_cons, List.find?_cons, ← h.1]
    by_cases e : p.1 = k
    · simp only [e, decide_true]
      exact h.2.2
    · simp only [e, decide_false]
      exact ih
theorem paired_snoc {α β : Type} {F : α → β → Prop} {x : α} {y : β} (h : F x y) : ∀ {xs : List α} {ys : List β}, Paired F xs ys → Paired F (xs ++ [x]) (ys ++ [y])
  | _, _, .nil => .cons h .nil
  | _, _, .cons q t => .cons q (paired_snoc h t)
section
variable {X : Cx} {pins : List (Addr × Obj)} {σ : L2.St} {H : Hp} {s : Shared} {a b : Addr} {kvs : List Ent} {k : NestedKey}
/-- {} -/
def tDNewN (P : Program) (w : World) : TE := fun _ H Q => ∀ p, H p = none → Q (.ref p) (upd H p (dN P w p []))
theorem pe_dnewN {pos : Pos} : PE X (.Dict [] [] pos) (tDNewN X.prog X.w) := by
  refine ⟨fun pins s σ H Q I h => ?_⟩
  refine wpAny_Dict_empty ?_
  have hn : H s.heap.objs.size = none := I.hok.fresh (Nat.le_refl _)
  have new : ObjOk X.prog X.w (upd H s.heap.objs.size (dN X.prog X.w s.heap.objs.size [])) (s.heap.push { cls := .type "dict", data := .dict #[] }) s.heap.objs.size (dN X.prog X.w s.heap.objs.size []) := by
    obtain ⟨_, hd, _⟩ := dk_empty (P := X.prog) (w := X.w) (H := H) s.heap I.big
    exact dN_ok (Nat.zero_le _) hd ⟨[], .nil, _, #[], 0, Heap.get?_push_size _ rfl, ⟨rfl, rfl, rfl⟩, rfl, rfl, List.nodup_nil⟩
  exact ⟨.ref _, _, I.laid (t' := s.toks) (fun c o e => Heap.get?_push_of_some _ e) (Nat.le_refl _) new, rfl, h _ hn⟩
theorem DN.new {P : Program} {w : World} : DN P w (upd H a (dN P w a [])) a [] := ⟨upd_same, fun p hp => by simp at hp⟩
/-- d.setdefault(k, v) -/
theorem n_setd {A : Around} {E : Value → Shared → Prop} {z : V} {r : Value} {Q : Value → Shared → Prop} (hu : A.units + 16 < cLine) (I : Inv X pins σ H s) (d : DN X.prog X.w H a kvs) (hk : KeyV H k (.ref b)) (hdp : k.depth ≤ 8) (rz : RelV z r) (hl : kvs.length < sizeLine)
    (h1 : ∀ v, valN kvs k = some v → ∀ (w' : Value) (s' : Shared), Inv X pins σ H s' → RelV v w' → Q w' s')
    (h2 : valN kvs k = none → ∀ (w' : Value) (s' : Shared), Inv X pins σ (upd H a (dN X.prog X.w a (kvs ++ [(k, b, z)]))) s' → RelV z w' → Q w' s') :
    wpAny (model X.prog X.w) A (call (.builtin "dict.setdefault") [.ref a, .ref b, r]) Q E s := by
  obtain ⟨hz, hd, xs, rel, hm⟩ := d.raw I.hok
  have hxl : xs.length = kvs.length := (Paired.length rel).symm
  have hv := valN_at (k := k) rel
  refine call_setdefault_heap (knd := nestedKind X.prog X.w) (hsz := by rw [hxl]; exact hz) (by show A.units + 1 + 8 < cLine; omega) ⟨KeyV.is I.hok _ _ _ hk rfl, hdp⟩ hd hm (fun p hp => ?_) fun hn h' hm' hs => ?_
  · rw [hp] at hv
    cases e : valN kvs k with
    | none => rw [e] at hv; exact (show False from hv).elim
    | some v => rw [e] at hv; exact h1 v e _ _ (I.tok _) hv
  · have hN : valN kvs k = none := by
      cases e : valN kvs k with
      | none => rfl
      | some v => rw [e, hn] at hv; exact (show False from hv).elim
    rw [PySem.storedH_new hn] at hm'
    have he : ∃ q, h'.get? a = some q := let ⟨q, _, _, hq, _⟩ := hm'; ⟨q, hq⟩
    refine h2 hN _ _ (d_write (t' := s.toks + (nestedKind X.prog X.w).draws k) I (by rw [d.at_]; exact True.intro) hs he (dN_ok (by rw [List.length_append, List.length_singleton]; omega) hd ?_)) rz
    obtain ⟨o, es, ep, q1, q2, q3, q4, _, q6⟩ := hm'
    exact ⟨_, paired_snoc ⟨rfl, rfl, rz⟩ rel, o, es, ep, q1, q2, q3, q4, q6⟩
def tSetdN (P : Program) (w : World) (td ty tx : TE) : TE := fun σ H Q => td σ H fun x H1 => ∃ a kvs0, x = .ref a ∧ DN P w H1 a kvs0 ∧ ty σ H1 fun y H2 => tx σ H2 fun z H3 => ∃ kvs k b, y = .ref b ∧ DN P w H3 a kvs ∧ KeyV H3 k (.ref b) ∧ k.depth ≤ 8 ∧ kvs.length < sizeLine ∧
  (∀ v, valN kvs k = some v → Q v H3) ∧ (valN kvs k = none → Q z (upd H3 a (dN P w a (kvs ++ [(k, b, z)]))))
theorem DN.dict (I : Inv X pins σ H s) (d : DN X.prog X.w H a kvs) : s.TypeIs (.ref a) "dict" ∧ ∀ c, Value.ref a = .ref c → ∃ ob, s.heap.get? c = some ob ∧ ob.dict = none := by
  obtain ⟨_, _, xs, _, o, es, ep, ho, hx, _⟩ := d.raw I.hok
  refine ⟨⟨o, ho, hx.1⟩, fun c e => ?_⟩
  cases e
  exact ⟨o, ho, hx.2.1⟩
theorem pe_setdN {o e f : Expr} {td ty tx : TE} {apos cpos : Pos} (hu : X.A.units + 16 < cLine) (ho : PE X o td) (he : PE X e ty) (hf : PE X f tx) (m : M2 X o "setdefault" apos e f cpos) : PE X (.Call (.Attribute o "setdefault" apos) [e, f] [] cpos) (tSetdN X.prog X.w td ty tx) := by
  refine ⟨fun pins s σ H Q I h => ?_⟩
  refine wpAny_Call_method m.base m.few m.line PySem.F.plainAttrs_dict PySem.F.slot_dict_setdefault PySem.F.type_dict_setdefault (thn (ho.run pins s σ H _ I h) fun u s1 ⟨x, H1, I1, rx, a, kvs0, ex, d, q1⟩ => ?_)
  subst ex
  obtain rfl : u = Value.ref a := rx
  obtain ⟨t1, t2⟩ := d.dict I1
  refine ⟨t1, t2, ?_⟩
  rw [m.trees]
  refine Calls.callWith_builtin rfl (Calls.evalArgs_plain (Calls.spliced_cons (thn (he.run pins s1 σ H1 _ I1 q1) fun iv s2 ⟨y, H2, I2, ry, q2⟩ =>
    Calls.spliced_cons (thn (hf.run pins s2 σ H2 _ I2 q2) fun fv s3 ⟨z, H3, I3, rz, kvs, k, b, ey, d3, hk, hdp, hl, q3, q4⟩ => Calls.spliced_nil ?_))))
  subst ey
  obtain rfl : iv = Value.ref b := ry
  exact n_setd hu I3 d3 hk hdp rz hl (fun v hv w' s4 I4 rw' => ⟨v, _, I4, rw', q3 v hv⟩) fun hn w' s4 I4 rw' => ⟨z, _, I4, rw', q4 hn⟩
/-- d[k] -/
def rGetN (P : Program) (w : World) : R2 := fun x y H Q => ∃ a b kvs k v, x = .ref a ∧ y = .ref b ∧ DN P w H a kvs ∧ KeyV H k (.ref b) ∧ k.depth ≤ 8 ∧ valN kvs k = some v ∧ Q v H
theorem pe_getN {o i : Expr} {td ty : TE} {pos : Pos} (hu : X.A.units + 16 < cLine) (ho : PE X o td) (hi : PE X i ty) (hs : NoSl i) : PE X (.Subscript o i pos) (tOp (rGetN X.prog X.w) td ty) := by
  refine ⟨fun pins s σ H Q I h => ?_⟩
  refine subD_of PySem.F.slot_dict_getitem.lookup hs (thn (ho.run pins s σ H _ I h) fun u s1 ⟨x, H1, I1, rx, q1⟩ => thn (hi.run pins s1 σ H1 _ I1 q1) fun iv s2 ⟨y, H2, I2, ry, a, b, kvs, k, z, ex, ey, d, hk, hdp, hv, q2⟩ => ?_)
  subst ex ey
  obtain rfl : u = Value.ref a := rx
  obtain rfl : iv = Value.ref b := ry
  obtain ⟨hz, hd, xs, rel, hm⟩ := d.raw I2.hok
  have hv2 := valN_at (k := k) rel
  rw [hv] at hv2
  refine ⟨hm.typeIs, ?_⟩
  cases e : atKey xs k with
  | none => rw [e] at hv2; exact (show False from hv2).elim
  | some p =>
    rw [e] at hv2
    exact wpAny_getItem_heap (knd := nestedKind X.prog X.w) (by show X.A.units + 1 + 8 < cLine; omega) ⟨KeyV.is I2.hok _ _ _ hk rfl, hdp⟩ hm e ⟨z, H2, I2.tok _, hv2, q2⟩
/-- len(d) -/
theorem call_lenN : CallR X (.builtin "len") (fun xs H Q => ∃ a kvs, xs = [.ref a] ∧ DN X.prog X.w H a kvs ∧ Q (.int kvs.length) H) := by
  intro pins s σ H xs us Q I r h
  obtain ⟨a, kvs, rfl, d, q⟩ := h
  obtain ⟨u, rfl, ru⟩ := vals1 r
  cases ru
  obtain ⟨hz, hd, xs, rel, hm⟩ := d.raw I.hok
  have hxl : (pairsH xs).length = kvs.length := by rw [pairsH_length]; exact (Paired.length rel).symm
  have hk : s.heap.DictKeyed (nestedKind X.prog X.w) a (pairsH xs) := ⟨xs, hm, rfl⟩
  refine PyProof.Rows.call_len_slot (n := (pairsH xs).length) hm.typeIs F.slot_dict_len (fun Q' hq => len_keyed hd hk hq) (by omega) (by rw [sizeLine_eq] at hz; omega) ?_
  exact ⟨.int kvs.length, H, I.tok _, ⟨_, by rw [hxl]⟩, q⟩
end
end Ap
set_option Elab.async false
set_option linter.all false
set_option maxRecDepth 100000
set_option maxHeartbeats 2000000
/-! zip of two tuples, drawn by one name: at the library's level. -/
namespace ZX
open PySem
open PySem.Sem (wp)
abbrev IsZ (h : Heap) (z TI TO : Addr) (f0 : Value) (f1 : Bool) : Prop :=
  h.get? z = some { cls := .type "zip", dict := none, data := .fields #[f0, .bool f1, .bool false, .ref TI, .ref TO], slots := #[] }
/-- the tuple that is out: none, or one that may live or not -/
def ZSt (h : Heap) (z TI TO : Addr) : Prop := ∃ f0 f1, IsZ h z TI TO f0 f1 ∧ (f0 = .none ∨ ∃ a : Addr, f0 = rawInt a)
section
variable {prog : Program} {w : World} {A : Around} {E : Value → Shared → Prop} {s : Shared}
theorem alive_or {a : Addr} {Q : Option Obj → Shared → Prop} (h : Q (s.heap.get? a) s) : wpAny (model prog w) A (loadIfAlive a) Q E s := fun _ _ _ => h
theorem free_or {z TI TO : Addr} {f0 : Value} {f1 : Bool} {Q : Bool → Shared → Prop} (hz : IsZ s.heap z TI TO f0 f1) (hf : f0 = .none ∨ ∃ a : Addr, f0 = rawInt a)
    (h1 : Q true s) (h2 : ∀ h', IsZ h' z TI TO f0 true → Heap.SameBut z s.heap h' → Q false { s with heap := h' }) : wpAny (model prog w) A (Builtin.SmallTypes.ownedTupleIsFree (.ref z)) Q E s := by
  unfold Builtin.SmallTypes.ownedTupleIsFree
  rcases hf with rfl | ⟨a, rfl⟩
  · exact wpAny_bind (wpAny_field hz rfl (x := .none) rfl (wpAny_pure h1))
  · refine wpAny_bind (wpAny_field hz rfl (x := rawInt a) rfl ?_)
    show wpAny _ _ (loadIfAlive ((a : Int).toNat) >>= _) _ _ _
    rw [Int.toNat_natCast]
    refine wpAny_bind (alive_or ?_)
    cases e : s.heap.get? a with
    | none =>
      simp only [Option.isNone_none, if_true]
      exact wpAny_pure h1
    | some oa =>
      simp only [Option.isNone_some, Bool.false_eq_true, if_false]
      refine wpAny_bind (wpAny_field hz rfl (x := .bool f1) rfl ?_)
      cases f1 with
      | true =>
        rw [if_neg (show ¬ ((Value.bool true != Value.bool true) = true) from Bool.false_ne_true)]
        exact wpAny_pure (h2 s.heap hz (Heap.SameBut.refl _ _))
      | false =>
        rw [if_pos (show (Value.bool false != Value.bool true) = true from rfl)]
        refine wpAny_bind (wpAny_setField_rec hz (by simp) fun h₃ he₃ hs₃ => ?_)
        exact wpAny_pure (h2 h₃ he₃ hs₃)
theorem next_item {z TI TO i1 i2 l1 l2 : Addr} {k1 k2 : Nat} {xs ys : Array Value} {x y a b : Value} {Q : Value → Shared → Prop} (D : ZipApart z TI TO i1 i2 l1 l2)
    (hz : ZSt s.heap z TI TO) (hTI : IsPair s.heap TI (.ref i1) (.ref i2)) (hTO : IsPair s.heap TO a b)
    (h1 : s.heap.IsTupleIter i1 l1 k1) (h2 : s.heap.IsTupleIter i2 l2 k2) (hl1 : s.heap.IsTuple l1 xs) (hl2 : s.heap.IsTuple l2 ys) (hx : xs[k1]? = some x) (hy : ys[k2]? = some y)
    (hQ : ∀ h', ZSt h' z TI TO → (∃ a b, IsPair h' TO a b) → h'.IsTupleIter i1 l1 (k1 + 1) → h'.IsTupleIter i2 l2 (k2 + 1) → IsPair h' s.heap.objs.size x y → h'.objs.size = s.heap.objs.size + 1 →
      (∀ c o, c ≠ z → c ≠ TO → c ≠ i1 → c ≠ i2 → s.heap.get? c = some o → h'.get? c = some o) → Q (.ref s.heap.objs.size) { s with heap := h' }) :
    wpAny (model prog w) A (Builtin.«zip.__next__» ⟨[.ref z], []⟩) (fun fin s' => ∃ v, fin = .done (.ret v) ∧ Q v s') E s := by
  obtain ⟨f0, f1, hz, hf⟩ := hz
  show wpAny _ _ (field (.ref z) 2 >>= _) _ _ _
  refine wpAny_bind (wpAny_field hz rfl (x := .bool false) rfl ?_)
  show wpAny _ _ (field (.ref z) 3 >>= _) _ _ _
  refine wpAny_bind (wpAny_field hz rfl (x := .ref TI) rfl ?_)
  refine wpAny_bind (wpAny_seqItems hTI rfl ?_)
  show wpAny _ _ (Builtin.SmallTypes.ownedTupleIsFree (.ref z) >>= _) _ _ _
  refine wpAny_bind (free_or hz hf ?_ fun h₁ hz₁ hs₁ => ?_)
  · simp only [if_true]
    refine wpAny_bind (wpAny_rule ?_)
    refine wpAny_bind (wpAny_field hz rfl (x := .ref TO) rfl ?_)
    refine wpAny_bind (wpAny_setField_rec hz (by simp) fun h₁ hz₁ hs₁ => ?_)
    replace hz₁ : IsZ h₁ z TI TO .ellipsis f1 := hz₁
    refine wpAny_bind ?_
    simp only [List.zipIdx_cons, List.zipIdx_nil, List.forIn_cons, List.forIn_nil]
    refine wpAny_bind (wpAny_bind (wpAny_onRaise ?_))
    show wpAny _ _ (Builtin.SmallTypes.nextOf (.ref i1) >>= _) _ _ _
    refine wpAny_bind (RZ.nextOf_tuple_item (h1.extBut hs₁.extBut D.i1z) (hl1.extBut hs₁.extBut D.l1z) hx fun h₂ h1₂ hs₂ => wpAny_pure ?_)
    have hTO₂ : IsPair h₂ TO a b := hs₂.extBut _ _ D.TOi1 (hs₁.extBut _ _ D.TOz hTO)
    refine wpAny_bind (wpAny_seqItems hTO₂ rfl ?_)
    refine wpAny_bind (wpAny_updateSeq_pair hTO₂ fun h₃ hTO₃ hs₃ => ?_)
    replace hTO₃ : IsPair h₃ TO x b := hTO₃
    refine wpAny_bind (wpAny_letGo (wpAny_pure ?_))
    refine wpAny_bind (wpAny_bind (wpAny_onRaise ?_))
    show wpAny _ _ (Builtin.SmallTypes.nextOf (.ref i2) >>= _) _ _ _
    refine wpAny_bind (RZ.nextOf_tuple_item (((h2.extBut hs₁.extBut D.i2z).extBut hs₂.extBut D.i12.symm).extBut hs₃.extBut D.TOi2.symm)
      (((hl2.extBut hs₁.extBut D.l2z).extBut hs₂.extBut D.l2i1).extBut hs₃.extBut D.l2TO) hy fun h₄ h2₄ hs₄ => wpAny_pure ?_)
    have hTO₄ : IsPair h₄ TO x b := hs₄.extBut _ _ D.TOi2 hTO₃
    refine wpAny_bind (wpAny_seqItems hTO₄ rfl ?_)
    refine wpAny_bind (wpAny_updateSeq_pair hTO₄ fun h₅ hTO₅ hs₅ => ?_)
    replace hTO₅ : IsPair h₅ TO x y := hTO₅
    refine wpAny_bind (wpAny_letGo (wpAny_pure (wpAny_pure ?_)))
    refine wpAny_bind (wpAny_seqItems hTO₅ rfl ?_)
    refine wpAny_bind (wpAny_newTuple ?_)
    have hsz : h₅.objs.size = s.heap.objs.size := by rw [hs₅.1, hs₄.1, hs₃.1, hs₂.1, hs₁.1]
    have hz₅ : IsZ h₅ z TI TO .ellipsis f1 := hs₅.extBut _ _ D.TOz.symm (hs₄.extBut _ _ D.i2z.symm (hs₃.extBut _ _ D.TOz.symm (hs₂.extBut _ _ D.i1z.symm hz₁)))
    have hk₅ : ∀ c o, c ≠ z → c ≠ TO → c ≠ i1 → c ≠ i2 → s.heap.get? c = some o → h₅.get? c = some o := fun c o c1 c2 c3 c4 e =>
      hs₅.extBut _ _ c2 (hs₄.extBut _ _ c4 (hs₃.extBut _ _ c2 (hs₂.extBut _ _ c3 (hs₁.extBut _ _ c1 e))))
    have h1₅ : h₅.IsTupleIter i1 l1 (k1 + 1) := ((h1₂.extBut hs₃.extBut D.TOi1.symm).extBut hs₄.extBut D.i12).extBut hs₅.extBut D.TOi1.symm
    have h2₅ : h₅.IsTupleIter i2 l2 (k2 + 1) := h2₄.extBut hs₅.extBut D.TOi2.symm
    have hzlt : z < h₅.objs.size := Heap.lt_size hz₅
    have hTOlt : TO < h₅.objs.size := Heap.lt_size hTO₅
    have hi1lt : i1 < h₅.objs.size := by obtain ⟨_, e, _⟩ := h1₅; exact Heap.lt_size e
    have hi2lt : i2 < h₅.objs.size := by obtain ⟨_, e, _⟩ := h2₅; exact Heap.lt_size e
    show wpAny _ _ (Builtin.SmallTypes.ownedTupleHandOut (.ref z) (.ref h₅.objs.size) >>= _) _ _ _
    refine wpAny_bind ?_
    unfold Builtin.SmallTypes.ownedTupleHandOut
    have hz₆ : IsZ (h₅.push { cls := .type "tuple", data := .seq #[x, y] }) z TI TO .ellipsis f1 := Heap.get?_push_of_some _ hz₅
    refine wpAny_bind (wpAny_setField_rec hz₆ (by simp) fun h₇ hz₇ hs₇ => ?_)
    replace hz₇ : IsZ h₇ z TI TO (rawInt h₅.objs.size) f1 := hz₇
    refine wpAny_setField_rec hz₇ (by simp) fun h₈ hz₈ hs₈ => ?_
    replace hz₈ : IsZ h₈ z TI TO (rawInt h₅.objs.size) false := hz₈
    have up : ∀ c o, c ≠ z → h₅.get? c = some o → h₈.get? c = some o := fun c o c1 e => hs₈.extBut _ _ c1 (hs₇.extBut _ _ c1 (Heap.get?_push_of_some _ e))
    have hT₈ : IsPair h₈ h₅.objs.size x y := hs₈.extBut _ _ (Nat.ne_of_gt hzlt) (hs₇.extBut _ _ (Nat.ne_of_gt hzlt) (Heap.get?_push_size _ rfl))
    have hz8 : h₈.objs.size = h₅.objs.size + 1 := by rw [hs₈.1, hs₇.1, Heap.size_push]
    rw [hsz] at hz₈ hT₈ hz8
    refine wpAny_pure ⟨_, rfl, ?_⟩
    show Q (.ref h₅.objs.size) _
    rw [hsz]
    exact hQ h₈ ⟨_, _, hz₈, .inr ⟨_, rfl⟩⟩ ⟨x, y, up _ _ D.TOz hTO₅⟩ (h1₅.at fun o q => up i1 o D.i1z q) (h2₅.at fun o q => up i2 o D.i2z q) hT₈ hz8 fun c o c1 c2 c3 c4 e => up c o c1 (hk₅ c o c1 c2 c3 c4 e)
  · simp only [Bool.false_eq_true, if_false]
    refine wpAny_bind ?_
    simp only [← Array.forIn_toList, List.forIn_cons, List.forIn_nil]
    refine wpAny_bind (wpAny_bind (wpAny_holding ?_))
    show wpAny _ _ (Builtin.SmallTypes.nextOf (.ref i1) >>= _) _ _ _
    refine wpAny_bind (RZ.nextOf_tuple_item (h1.extBut hs₁.extBut D.i1z) (hl1.extBut hs₁.extBut D.l1z) hx fun h₂ h1₂ hs₂ => wpAny_pure ?_)
    refine wpAny_pure ?_
    refine wpAny_bind (wpAny_bind (wpAny_holding ?_))
    show wpAny _ _ (Builtin.SmallTypes.nextOf (.ref i2) >>= _) _ _ _
    refine wpAny_bind (RZ.nextOf_tuple_item ((h2.extBut hs₁.extBut D.i2z).extBut hs₂.extBut D.i12.symm)
      ((hl2.extBut hs₁.extBut D.l2z).extBut hs₂.extBut D.l2i1) hy fun h₄ h2₄ hs₄ => wpAny_pure ?_)
    refine wpAny_pure (wpAny_pure ?_)
    refine wpAny_bind (wpAny_newTuple (hsz := by show 2 ≤ sizeLine; decide) ?_)
    have hsz : h₄.objs.size = s.heap.objs.size := by rw [hs₄.1, hs₂.1, hs₁.1]
    have hz₅ : IsZ h₄ z TI TO f0 true := hs₄.extBut _ _ D.i2z.symm (hs₂.extBut _ _ D.i1z.symm hz₁)
    have hTO₅ : IsPair h₄ TO a b := hs₄.extBut _ _ D.TOi2 (hs₂.extBut _ _ D.TOi1 (hs₁.extBut _ _ D.TOz hTO))
    have h1₅ : h₄.IsTupleIter i1 l1 (k1 + 1) := h1₂.extBut hs₄.extBut D.i12
    refine wpAny_pure ⟨_, rfl, ?_⟩
    show Q (.ref h₄.objs.size) _
    have hT : IsPair (h₄.push { cls := .type "tuple", data := .seq #[x, y] }) h₄.objs.size x y := Heap.get?_push_size _ rfl
    rw [hsz] at hT ⊢
    exact hQ _ ⟨_, _, Heap.get?_push_of_some _ hz₅, hf⟩ ⟨a, b, Heap.get?_push_of_some _ hTO₅⟩ (h1₅.at fun o q => Heap.get?_push_of_some _ q) (h2₄.at fun o q => Heap.get?_push_of_some _ q) hT (by rw [Heap.size_push, hsz])
      fun c o c1 c2 c3 c4 e => Heap.get?_push_of_some _ (hs₄.extBut _ _ c4 (hs₂.extBut _ _ c3 (hs₁.extBut _ _ c1 e)))
theorem next_end {z TI TO i1 i2 l1 l2 : Addr} {k1 k2 : Nat} {xs ys : Array Value} {a b : Value} {Q : Fin → Shared → Prop} (hh : A.handled = none) (D : ZipApart z TI TO i1 i2 l1 l2)
    (hz : ZSt s.heap z TI TO) (hTI : IsPair s.heap TI (.ref i1) (.ref i2)) (hTO : IsPair s.heap TO a b)
    (h1 : s.heap.IsTupleIter i1 l1 k1) (h2 : s.heap.IsTupleIter i2 l2 k2) (hl1 : s.heap.IsTuple l1 xs) (hl2 : s.heap.IsTuple l2 ys) (hend : xs[k1]? = none ∨ ys[k2]? = none)
    (hE : ∀ h' e, (∀ c o, c ≠ z → c ≠ TO → c ≠ i1 → c ≠ i2 → s.heap.get? c = some o → h'.get? c = some o) → (∃ o, h'.get? e = some o ∧ o.cls = .type "StopIteration") → E (.ref e) { s with heap := h' }) :
    wpAny (model prog w) A (Builtin.«zip.__next__» ⟨[.ref z], []⟩) Q E s := by
  obtain ⟨f0, f1, hz, hf⟩ := hz
  show wpAny _ _ (field (.ref z) 2 >>= _) _ _ _
  refine wpAny_bind (wpAny_field hz rfl (x := .bool false) rfl ?_)
  show wpAny _ _ (field (.ref z) 3 >>= _) _ _ _
  refine wpAny_bind (wpAny_field hz rfl (x := .ref TI) rfl ?_)
  refine wpAny_bind (wpAny_seqItems hTI rfl ?_)
  show wpAny _ _ (Builtin.SmallTypes.ownedTupleIsFree (.ref z) >>= _) _ _ _
  refine wpAny_bind (free_or hz hf ?_ fun h₁ hz₁ hs₁ => ?_)
  · simp only [if_true]
    refine wpAny_bind (wpAny_rule ?_)
    refine wpAny_bind (wpAny_field hz rfl (x := .ref TO) rfl ?_)
    refine wpAny_bind (wpAny_setField_rec hz (by simp) fun h₁ hz₁ hs₁ => ?_)
    replace hz₁ : IsZ h₁ z TI TO .ellipsis f1 := hz₁
    refine wpAny_bind ?_
    simp only [List.zipIdx_cons, List.zipIdx_nil, List.forIn_cons, List.forIn_nil]
    refine wpAny_bind (wpAny_bind (wpAny_onRaise ?_))
    show wpAny _ _ (Builtin.SmallTypes.nextOf (.ref i1) >>= _) _ _ _
    cases hx : xs[k1]? with
    | none =>
      refine wpAny_bind (RZ.nextOf_tuple_end hh (h1.extBut hs₁.extBut D.i1z) (hl1.extBut hs₁.extBut D.l1z) hx fun h₂ e hs₂ he => ?_)
      obtain ⟨oe, hoe, hce⟩ := he
      have hz₂ : IsZ h₂ z TI TO .ellipsis f1 := hs₂ _ _ D.i1z.symm hz₁
      have hez : e ≠ z := fun x => by subst x; rw [hz₂] at hoe; cases hoe; simp at hce
      refine wpAny_setField_rec hz₂ (by simp) fun h₃ _ hs₃ => hE h₃ e (fun c o c1 _ c3 _ x => hs₃.extBut _ _ c1 (hs₂ _ _ c3 (hs₁.extBut _ _ c1 x))) ⟨oe, hs₃.extBut _ _ hez hoe, hce⟩
    | some x =>
      have hy : ys[k2]? = none := by rcases hend with h | h; rw [hx] at h; cases h; exact h
      refine wpAny_bind (RZ.nextOf_tuple_item (h1.extBut hs₁.extBut D.i1z) (hl1.extBut hs₁.extBut D.l1z) hx fun h₂ h1₂ hs₂ => wpAny_pure ?_)
      have hTO₂ : IsPair h₂ TO a b := hs₂.extBut _ _ D.TOi1 (hs₁.extBut _ _ D.TOz hTO)
      refine wpAny_bind (wpAny_seqItems hTO₂ rfl ?_)
      refine wpAny_bind (wpAny_updateSeq_pair hTO₂ fun h₃ hTO₃ hs₃ => ?_)
      refine wpAny_bind (wpAny_letGo (wpAny_pure ?_))
      refine wpAny_bind (wpAny_bind (wpAny_onRaise ?_))
      show wpAny _ _ (Builtin.SmallTypes.nextOf (.ref i2) >>= _) _ _ _
      refine wpAny_bind (RZ.nextOf_tuple_end hh (((h2.extBut hs₁.extBut D.i2z).extBut hs₂.extBut D.i12.symm).extBut hs₃.extBut D.TOi2.symm)
        (((hl2.extBut hs₁.extBut D.l2z).extBut hs₂.extBut D.l2i1).extBut hs₃.extBut D.l2TO) hy fun h₄ e hs₄ he => ?_)
      obtain ⟨oe, hoe, hce⟩ := he
      have hz₄ : IsZ h₄ z TI TO .ellipsis f1 := hs₄ _ _ D.i2z.symm (hs₃.extBut _ _ D.TOz.symm (hs₂.extBut _ _ D.i1z.symm hz₁))
      have hez : e ≠ z := fun x => by subst x; rw [hz₄] at hoe; cases hoe; simp at hce
      refine wpAny_setField_rec hz₄ (by simp) fun h₅ _ hs₅ => hE h₅ e (fun c o c1 c2 c3 c4 x => hs₅.extBut _ _ c1 (hs₄ _ _ c4 (hs₃.extBut _ _ c2 (hs₂.extBut _ _ c3 (hs₁.extBut _ _ c1 x))))) ⟨oe, hs₅.extBut _ _ hez hoe, hce⟩
  · simp only [Bool.false_eq_true, if_false]
    refine wpAny_bind ?_
    simp only [← Array.forIn_toList, List.forIn_cons, List.forIn_nil]
    refine wpAny_bind (wpAny_bind (wpAny_holding ?_))
    show wpAny _ _ (Builtin.SmallTypes.nextOf (.ref i1) >>= _) _ _ _
    cases hx : xs[k1]? with
    | none =>
      refine wpAny_bind (RZ.nextOf_tuple_end hh (h1.extBut hs₁.extBut D.i1z) (hl1.extBut hs₁.extBut D.l1z) hx fun h₂ e hs₂ he => ?_)
      exact hE h₂ e (fun c o c1 _ c3 _ x => hs₂ _ _ c3 (hs₁.extBut _ _ c1 x)) he
    | some x =>
      have hy : ys[k2]? = none := by rcases hend with h | h; rw [hx] at h; cases h; exact h
      refine wpAny_bind (RZ.nextOf_tuple_item (h1.extBut hs₁.extBut D.i1z) (hl1.extBut hs₁.extBut D.l1z) hx fun h₂ h1₂ hs₂ => wpAny_pure ?_)
      refine wpAny_pure ?_
      refine wpAny_bind (wpAny_bind (wpAny_holding ?_))
      show wpAny _ _ (Builtin.SmallTypes.nextOf (.ref i2) >>= _) _ _ _
      refine wpAny_bind (RZ.nextOf_tuple_end hh ((h2.extBut hs₁.extBut D.i2z).extBut hs₂.extBut D.i12.symm)
        ((hl2.extBut hs₁.extBut D.l2z).extBut hs₂.extBut D.l2i1) hy fun h₄ e hs₄ he => ?_)
      exact hE h₄ e (fun c o c1 c2 c3 c4 x => hs₄ _ _ c4 (hs₂.extBut _ _ c3 (hs₁.extBut _ _ c1 x))) he
theorem pyNext_item {z TI TO i1 i2 l1 l2 : Addr} {k1 k2 : Nat} {xs ys : Array Value} {x y a b : Value} {Q : Option Value → Shared → Prop} (D : ZipApart z TI TO i1 i2 l1 l2)
    (hz : ZSt s.heap z TI TO) (hTI : IsPair s.heap TI (.ref i1) (.ref i2)) (hTO : IsPair s.heap TO a b)
    (h1 : s.heap.IsTupleIter i1 l1 k1) (h2 : s.heap.IsTupleIter i2 l2 k2) (hl1 : s.heap.IsTuple l1 xs) (hl2 : s.heap.IsTuple l2 ys) (hx : xs[k1]? = some x) (hy : ys[k2]? = some y)
    (hQ : ∀ h', ZSt h' z TI TO → (∃ a b, IsPair h' TO a b) → h'.IsTupleIter i1 l1 (k1 + 1) → h'.IsTupleIter i2 l2 (k2 + 1) → IsPair h' s.heap.objs.size x y → h'.objs.size = s.heap.objs.size + 1 →
      (∀ c o, c ≠ z → c ≠ TO → c ≠ i1 → c ≠ i2 → s.heap.get? c = some o → h'.get? c = some o) → Q (some (.ref s.heap.objs.size)) { s with heap := h' }) :
    wpAny (model prog w) A (pyNext (.ref z)) Q E s := by
  have hT : s.TypeIs (.ref z) "zip" := by obtain ⟨_, _, hz, _⟩ := hz; exact ⟨_, hz, rfl⟩
  unfold pyNext
  exact wpAny_bind (wpAny_attempt (wpAny_callSpecial?_slot (name := Str.ofString "__next__") hT F.slot_zip_next
    (wpAny_call_entry F.slot_zip_next hT F.entry_zip_next
      (next_item D hz hTI hTO h1 h2 hl1 hl2 hx hy fun h' a1 a2 a3 a4 a5 a6 a7 => wpAny_pure (hQ h' a1 a2 a3 a4 a5 a6 a7)) (F.args_zip_next_1 _))))
theorem pyNext_end {z TI TO i1 i2 l1 l2 : Addr} {k1 k2 : Nat} {xs ys : Array Value} {a b : Value} {Q : Option Value → Shared → Prop} (hh : A.handled = none) (D : ZipApart z TI TO i1 i2 l1 l2)
    (hz : ZSt s.heap z TI TO) (hTI : IsPair s.heap TI (.ref i1) (.ref i2)) (hTO : IsPair s.heap TO a b)
    (h1 : s.heap.IsTupleIter i1 l1 k1) (h2 : s.heap.IsTupleIter i2 l2 k2) (hl1 : s.heap.IsTuple l1 xs) (hl2 : s.heap.IsTuple l2 ys) (hend : xs[k1]? = none ∨ ys[k2]? = none)
    (hQ : ∀ h', (∀ c o, c ≠ z → c ≠ TO → c ≠ i1 → c ≠ i2 → s.heap.get? c = some o → h'.get? c = some o) → Q none { s with heap := h' }) : wpAny (model prog w) A (pyNext (.ref z)) Q E s := by
  have hT : s.TypeIs (.ref z) "zip" := by obtain ⟨_, _, hz, _⟩ := hz; exact ⟨_, hz, rfl⟩
  unfold pyNext
  refine wpAny_bind (wpAny_attempt (wpAny_callSpecial?_slot (name := Str.ofString "__next__") hT F.slot_zip_next
    (wpAny_call_entry F.slot_zip_next hT F.entry_zip_next (next_end hh D hz hTI hTO h1 h2 hl1 hl2 hend fun h' e hk he => ?_) (F.args_zip_next_1 _))))
  obtain ⟨o, ho, hc⟩ := he
  refine wpAny_bind (wpAny_isInstance (T := "StopIteration") (b := true) ⟨o, ho, hc⟩ isSubtype_stop ?_)
  exact wpAny_pure (hQ _ hk)
end
end ZX
set_option Elab.async false
set_option linter.all false
set_option maxRecDepth 100000
set_option maxHeartbeats 2000000
namespace ZX
open PySem PySem.W PySem.Calls PyProof.Rows PyProof.V PySem.Spec
/-! ### list(zip(a, b)) of two tuples -/
/-- the zip object and its parts, behind i draws -/
structure ZT (h : Heap) (z TI TO i1 i2 a b : Addr) (i : Nat) : Prop where
  st : ZSt h z TI TO
  ti : IsPair h TI (.ref i1) (.ref i2)
  to : ∃ x y, IsPair h TO x y
  t1 : h.IsTupleIter i1 a i
  t2 : h.IsTupleIter i2 b i
theorem ZT.keep {h h' : Heap} {z TI TO i1 i2 a b : Addr} {i : Nat} (x : ZT h z TI TO i1 i2 a b i) (k : ∀ c o, c = z ∨ c = TI ∨ c = TO ∨ c = i1 ∨ c = i2 → h.get? c = some o → h'.get? c = some o) : ZT h' z TI TO i1 i2 a b i := by
  obtain ⟨⟨f0, f1, hz, hf⟩, hTI, ⟨u, v, hTO⟩, h1, h2⟩ := x
  exact ⟨⟨f0, f1, k _ _ (.inl rfl) hz, hf⟩, k _ _ (.inr (.inl rfl)) hTI, ⟨u, v, k _ _ (.inr (.inr (.inl rfl))) hTO⟩, h1.at fun o q => k _ _ (.inr (.inr (.inr (.inl rfl)))) q, h2.at fun o q => k _ _ (.inr (.inr (.inr (.inr rfl)))) q⟩
theorem tup_keep {h h' : Heap} {l : Addr} {xs : Array Value} (x : h.IsTuple l xs) (k : ∀ o, h.get? l = some o → h'.get? l = some o) : h'.IsTuple l xs := by
  obtain ⟨o, ho, r⟩ := x
  exact ⟨o, k o ho, r⟩
structure ZG (xs ys : Array Value) (lo : Addr) (h : Heap) (as : List Addr) : Prop where
  rise : as.Pairwise (· < ·)
  above : ∀ a ∈ as, lo < a
  pairs : ∀ (j : Nat) (a : Addr), as[j]? = some a → ∃ x y, xs[j]? = some x ∧ ys[j]? = some y ∧ h.get? a = some { cls := .type "tuple", data := .seq #[x, y] }
theorem ZG.there {xs ys : Array Value} {lo : Addr} {h : Heap} {as : List Addr} (g : ZG xs ys lo h as) {a : Addr} (ha : a ∈ as) : a < h.objs.size := by
  obtain ⟨j, hj⟩ := List.mem_iff_getElem?.mp ha
  obtain ⟨_, _, _, _, e⟩ := g.pairs j a hj
  exact Heap.lt_size e
theorem zip_no_len : typeLookup (.type "zip") "__len__" = pure none := am_miss_of_fast (by first | decide +kernel | rfl)
theorem zip_no_hint : typeLookup (.type "zip") "__length_hint__" = pure none := am_miss_of_fast (by first | decide +kernel | rfl)
theorem five_ne {S z TI TO i1 i2 l1 l2 : Addr} (h : z < S ∧ TI < S ∧ TO < S ∧ i1 < S ∧ i2 < S ∧ l1 < S ∧ l2 < S) : ∀ c : Addr, c = z ∨ c = TI ∨ c = TO ∨ c = i1 ∨ c = i2 → c ≠ S := by
  obtain ⟨s1, s2, s3, s4, s5, s6, s7⟩ := h
  rintro c (rfl | rfl | rfl | rfl | rfl)
  · exact Nat.ne_of_lt s1
  · exact Nat.ne_of_lt s2
  · exact Nat.ne_of_lt s3
  · exact Nat.ne_of_lt s4
  · exact Nat.ne_of_lt s5
section
variable {prog : Program} {w : World} {A : Around} {E : Value → Shared → Prop} {s : Shared} {R : Result → Shared → Prop} {z TI TO i1 i2 l1 l2 : Addr} {xs ys : Array Value}
theorem zl_loop {S : Addr} {n : Nat} (hh : A.handled = none) (D : ZipApart z TI TO i1 i2 l1 l2) (hTITO : TI ≠ z ∧ TI ≠ i1 ∧ TI ≠ i2) (hS5 : z < S ∧ TI < S ∧ TO < S ∧ i1 < S ∧ i2 < S ∧ l1 < S ∧ l2 < S) (hn : n = min xs.size ys.size) (hn2 : n ≤ sizeLine) (res : Value) {h₁ : Heap}
    (hR : ∀ h' tk acc c as, (∀ b o, b ≠ S → b ≠ z → b ≠ TO → b ≠ i1 → b ≠ i2 → h₁.get? b = some o → h'.get? b = some o) → h'.get? S = some { cls := .type "list", dict := none, data := .seq acc c, slots := #[] } → as.length = n → ZG xs ys S h' as →
      acc.toList = as.map Value.ref → R (.ok (.ret res)) { s with heap := h', toks := tk }) :
    ∀ (k i : Nat) (h : Heap) (tk c : Nat) (acc : Array Value) (as : List Addr), n - i = k → i ≤ n → ZT h z TI TO i1 i2 l1 l2 i → h.IsTuple l1 xs → h.IsTuple l2 ys → (∀ b o, b ≠ S → b ≠ z → b ≠ TO → b ≠ i1 → b ≠ i2 → h₁.get? b = some o → h.get? b = some o) →
      h.get? S = some { cls := .type "list", dict := none, data := .seq acc c, slots := #[] } → acc.toList = as.map Value.ref → as.length = i → ZG xs ys S h as →
      codeAny (model prog w) A (.builtin "list.extend.loop" ⟨[.ref S, .ref z, res], []⟩) R { s with heap := h, toks := tk } := by
  have five := five_ne hS5
  obtain ⟨s1, s2, s3, s4, s5, s6, s7⟩ := hS5
  intro k
  induction k with
  | zero =>
    intro i h tk c acc as hk hi st hl1 hl2 hkeep hS hacc hal hG
    obtain ⟨hz, hTI, ⟨u, v, hTO⟩, h1, h2⟩ := st
    refine codeAny_builtin PySem.F.entry_extend_loop ?_
    rw [Around.under_plainId PySem.F.plain_extend_loop _]
    show wpAny _ A.in1 (pyNext (.ref z) >>= _) _ _ _
    have hend : xs[i]? = none ∨ ys[i]? = none := by
      rcases Nat.le_total xs.size ys.size with q | q
      · exact .inl (Array.getElem?_eq_none (by omega))
      · exact .inr (Array.getElem?_eq_none (by omega))
    refine wpAny_bind (pyNext_end (s := { s with heap := h, toks := tk }) (A := A.in1) hh D hz hTI hTO h1 h2 hl1 hl2 hend fun h' he => ?_)
    refine wpAny_pure (hR h' tk acc c as (fun b o c1 c2 c3 c4 c5 e => he b o c2 c3 c4 c5 (hkeep b o c1 c2 c3 c4 c5 e)) (he S _ (Nat.ne_of_gt s1) (Nat.ne_of_gt s3) (Nat.ne_of_gt s4) (Nat.ne_of_gt s5) hS) (by omega) ⟨hG.rise, hG.above, fun j a hj => ?_⟩ hacc)
    obtain ⟨x, y, e1, e2, e3⟩ := hG.pairs j a hj
    have ha := hG.above a (List.mem_of_getElem? hj)
    exact ⟨x, y, e1, e2, he a _ (Nat.ne_of_gt (Nat.lt_trans s1 ha)) (Nat.ne_of_gt (Nat.lt_trans s3 ha)) (Nat.ne_of_gt (Nat.lt_trans s4 ha)) (Nat.ne_of_gt (Nat.lt_trans s5 ha)) e3⟩
  | succ k ih =>
    intro i h tk c acc as hk hi st hl1 hl2 hkeep hS hacc hal hG
    obtain ⟨hz, hTI, ⟨u, v, hTO⟩, h1, h2⟩ := st
    have lt1 : i < xs.size := by omega
    have lt2 : i < ys.size := by omega
    have hsz : acc.size = i := by rw [← Array.length_toList, hacc, List.length_map, hal]
    refine codeAny_builtin PySem.F.entry_extend_loop ?_
    rw [Around.under_plainId PySem.F.plain_extend_loop _]
    show wpAny _ A.in1 (pyNext (.ref z) >>= _) _ _ _
    refine wpAny_bind (pyNext_item (s := { s with heap := h, toks := tk }) D hz hTI hTO h1 h2 hl1 hl2 (Array.getElem?_eq_getElem lt1) (Array.getElem?_eq_getElem lt2) fun h' hz' hTO' h1' h2' ht hsz' hkp => ?_)
    dsimp only at ht hsz' hkp ⊢
    have hS' := hkp S _ (Nat.ne_of_gt s1) (Nat.ne_of_gt s3) (Nat.ne_of_gt s4) (Nat.ne_of_gt s5) hS
    have up : ∀ b o, b ≠ S → h'.get? b = some o → (h'.update S (Obj.mapSeq (·.push (Value.ref h.objs.size)))).get? b = some o := fun b o hb e => (Heap.get?_update_other _ _ (Ne.symm hb)).trans e
    have hSl : S < h.objs.size := Heap.lt_size hS
    show wpAny _ A.in1 (updateSeq S (·.push (Value.ref h.objs.size)) >>= _) _ _ _
    refine wpAny_bind ?_
    have st' : ZT h' z TI TO i1 i2 l1 l2 (i + 1) := ⟨hz', hkp _ _ hTITO.1 D.TITO hTITO.2.1 hTITO.2.2 hTI, hTO', h1', h2'⟩
    refine wpAny_updateSeq hS' rfl (wpAny_pure ⟨plainId_quiet PySem.F.plain_extend_loop _, ih (i + 1) _ tk _ (acc.push (Value.ref h.objs.size)) (as ++ [h.objs.size]) (by omega) (by omega) (st'.keep fun c o hc e => up c o (five c hc) e)
      (tup_keep hl1 fun o e => up _ o (Nat.ne_of_lt s6) (hkp _ o D.l1z D.l1TO D.l1i1 D.l1i2 e)) (tup_keep hl2 fun o e => up _ o (Nat.ne_of_lt s7) (hkp _ o D.l2z D.l2TO D.l2i1 D.l2i2 e))
      (fun b o c1 c2 c3 c4 c5 e => up b o c1 (hkp b o c2 c3 c4 c5 (hkeep b o c1 c2 c3 c4 c5 e))) (Heap.get?_update_self _ hS' rfl) (by rw [Array.toList_push, hacc, List.map_append]; rfl) (by rw [List.length_append, hal]; rfl) ⟨?_, ?_, ?_⟩⟩) (by rw [hsz]; omega) (by show (acc.push (Value.ref h.objs.size)).size ≤ sizeLine + 1; rw [Array.size_push, hsz]; omega)
    · refine List.pairwise_append.mpr ⟨hG.rise, List.pairwise_singleton _ _, fun a ha b hb => ?_⟩
      rw [List.mem_singleton.mp hb]
      exact hG.there ha
    · intro a ha
      rcases List.mem_append.mp ha with ha | ha
      · exact hG.above a ha
      · rw [List.mem_singleton.mp ha]; exact hSl
    · intro j b hj
      rcases Nat.lt_trichotomy j as.length with q1 | q1 | q1
      · rw [List.getElem?_append_left q1] at hj
        obtain ⟨x, y, e1, e2, e3⟩ := hG.pairs j b hj
        have hb := hG.above b (List.mem_of_getElem? hj)
        exact ⟨x, y, e1, e2, up b _ (Nat.ne_of_gt hb) (hkp b _ (Nat.ne_of_gt (Nat.lt_trans s1 hb)) (Nat.ne_of_gt (Nat.lt_trans s3 hb)) (Nat.ne_of_gt (Nat.lt_trans s4 hb)) (Nat.ne_of_gt (Nat.lt_trans s5 hb)) e3)⟩
      · subst q1
        have hb : h.objs.size = b := by simpa using hj
        subst hb
        rw [hal]
        exact ⟨_, _, Array.getElem?_eq_getElem lt1, Array.getElem?_eq_getElem lt2, up _ _ (Nat.ne_of_gt hSl) ht⟩
      · have hnone : (as ++ [h.objs.size])[j]? = none := List.getElem?_eq_none (by rw [List.length_append, List.length_singleton]; omega)
        rw [hnone] at hj; cases hj
theorem zl_extend {S : Addr} {n : Nat} (hh : A.handled = none) (D : ZipApart z TI TO i1 i2 l1 l2) (hTITO : TI ≠ z ∧ TI ≠ i1 ∧ TI ≠ i2) (hS5 : z < S ∧ TI < S ∧ TO < S ∧ i1 < S ∧ i2 < S ∧ l1 < S ∧ l2 < S) (hn : n = min xs.size ys.size) (hn2 : n ≤ sizeLine) (res : Value)
    (st : ZT s.heap z TI TO i1 i2 l1 l2 0) (hl1 : s.heap.IsTuple l1 xs) (hl2 : s.heap.IsTuple l2 ys) (c₀ : Nat) (hS : s.heap.get? S = some { cls := .type "list", data := .seq #[] c₀ })
    (hR : ∀ h' tk acc c as, (∀ b o, b ≠ S → b ≠ z → b ≠ TO → b ≠ i1 → b ≠ i2 → s.heap.get? b = some o → h'.get? b = some o) → h'.get? S = some { cls := .type "list", dict := none, data := .seq acc c, slots := #[] } → as.length = n → ZG xs ys S h' as →
      acc.toList = as.map Value.ref → R (.ok (.ret res)) { s with heap := h', toks := tk }) :
    wpAny (model prog w) A.in1 (Builtin.List.listExtendWith (.ref S) (.ref z) res)
      (fun fin s' => match fin with | .done f => R (.ok f) s' | .again c' => c'.quiet = true ∧ codeAny (model prog w) A c' R s') (fun e s' => R (.error e) s') s := by
  have hT : s.TypeIs (.ref z) "zip" := by obtain ⟨_, _, hz, _⟩ := st.st; exact ⟨_, hz, rfl⟩
  have key : ∀ (h : Heap) (c₁ tk : Nat), (∀ b o, b ≠ S → s.heap.get? b = some o → h.get? b = some o) → h.get? S = some { cls := .type "list", data := .seq #[] c₁ } → codeAny (model prog w) A (.builtin "list.extend.loop" ⟨[.ref S, .ref z, res], []⟩) R { s with heap := h, toks := tk } := by
    intro h c₁ tk hk hS₁
    have five := five_ne hS5
    obtain ⟨s1, s2, s3, s4, s5, s6, s7⟩ := hS5
    exact zl_loop (h₁ := s.heap) hh D hTITO ⟨s1, s2, s3, s4, s5, s6, s7⟩ hn hn2 res hR n 0 h tk c₁ #[] [] (Nat.sub_zero _) (Nat.zero_le _) (st.keep fun c o hc e => hk c o (five c hc) e) (tup_keep hl1 fun o e => hk _ o (Nat.ne_of_lt s6) e) (tup_keep hl2 fun o e => hk _ o (Nat.ne_of_lt s7) e)
      (fun b o c1 _ _ _ _ e => hk b o c1 e) hS₁ rfl rfl ⟨List.Pairwise.nil, (fun _ ha => nomatch ha), (fun j a hj => by simp at hj)⟩
  unfold Builtin.List.listExtendWith
  refine wpAny_bind (wpAny_typeOf (T := "zip") hT ?_)
  have g1 : Builtin.List.listSameRef (.ref S) (.ref z) = false := by
    have : S ≠ z := Nat.ne_of_gt hS5.1
    simp [Builtin.List.listSameRef, this]
  have g2 : (Value.type "zip" == Value.type "list") = false := by decide
  have g3 : (Value.type "zip" == Value.type "tuple") = false := by decide
  simp only [g1, g2, g3, Bool.or_false, Bool.false_eq_true, if_false]
  obtain ⟨f0, f1, hz, hf⟩ := st.st
  refine wpAny_bind ?_
  refine wpAny_pyIter_slot hT F.slot_zip_iter (wpAny_call_entry F.slot_zip_iter hT F.entry_zip_iter ?_ (F.args_zip_iter_1 _))
  show wpAny _ _ (ret (.ref z)) _ _ s
  refine wpAny_pure ⟨_, rfl, "zip", _, hT, F.slot_zip_next.lookup, ?_⟩
  refine wpAny_bind (wpAny_holding ?_)
  unfold Builtin.List.listLengthHint
  refine wpAny_bind (wpAny_specialOf hT zip_no_len ?_)
  show wpAny _ A.in1 (specialOf (Value.ref z) (Str.ofString "__length_hint__") >>= _) _ _ _
  refine wpAny_bind (wpAny_specialOf hT zip_no_hint ?_)
  refine wpAny_pure ?_
  simp only [Bool.true_or, if_true]
  refine wpAny_bind (wpAny_rule ?_)
  refine wpAny_bind ?_
  show wpAny _ _ (updateSeq S (·.push .none) >>= fun _ => updateSeq S (·.pop)) _ _ _
  refine wpAny_bind (wpAny_updateSeq hS rfl ?_)
  have hS₂ := Heap.get?_update_self (Obj.mapSeq (·.push Value.none)) hS rfl
  refine wpAny_updateSeq (hz := by seq_fits) hS₂ rfl ?_
  have hS₃ := Heap.get?_update_self (Obj.mapSeq (·.pop)) hS₂ rfl
  refine wpAny_pure ⟨plainId_quiet PySem.F.plain_extend_loop _, key _ _ _ (fun b o hb e => ?_) hS₃⟩
  exact (Heap.get?_update_other _ _ (Ne.symm hb)).trans ((Heap.get?_update_other _ _ (Ne.symm hb)).trans e)
end
end ZX
set_option Elab.async false
set_option linter.all false
set_option maxRecDepth 100000
set_option maxHeartbeats 2000000
namespace ZX
open PySem PySem.W PySem.Calls PyProof.Rows PyProof.V PySem.Spec
section
variable {prog : Program} {w : World} {A : Around} {E : Value → Shared → Prop} {s : Shared} {R : Result → Shared → Prop} {z TI TO i1 i2 l1 l2 : Addr} {xs ys : Array Value}
theorem ZG.low {lo lo' : Addr} {h : Heap} {as : List Addr} (g : ZG xs ys lo h as) (hl : lo' ≤ lo) : ZG xs ys lo' h as := ⟨g.rise, fun a ha => Nat.lt_of_le_of_lt hl (g.above a ha), g.pairs⟩
theorem zl_init {S : Addr} {n : Nat} (hh : A.handled = none) (D : ZipApart z TI TO i1 i2 l1 l2) (hTITO : TI ≠ z ∧ TI ≠ i1 ∧ TI ≠ i2) (hS5 : z < S ∧ TI < S ∧ TO < S ∧ i1 < S ∧ i2 < S ∧ l1 < S ∧ l2 < S) (hn : n = min xs.size ys.size) (hn2 : n ≤ sizeLine)
    (st : ZT s.heap z TI TO i1 i2 l1 l2 0) (hl1 : s.heap.IsTuple l1 xs) (hl2 : s.heap.IsTuple l2 ys) (hS : s.heap.get? S = some { cls := .type "list", data := .seq #[] })
    (hR : ∀ h' tk acc c as, (∀ b o, b ≠ S → b ≠ z → b ≠ TO → b ≠ i1 → b ≠ i2 → s.heap.get? b = some o → h'.get? b = some o) → h'.get? S = some { cls := .type "list", dict := none, data := .seq acc c, slots := #[] } → as.length = n → ZG xs ys S h' as →
      acc.toList = as.map Value.ref → R (.ok (.ret .none)) { s with heap := h', toks := tk }) :
    wpAny (model prog w) A.in1 (Builtin.«list.__init__» ⟨[.ref S, .ref z], []⟩)
      (fun fin s' => match fin with | .done f => R (.ok f) s' | .again c' => c'.quiet = true ∧ codeAny (model prog w) A c' R s') (fun e s' => R (.error e) s') s := by
  have five := five_ne hS5
  show wpAny _ _ (do let old ← Builtin.List.listItems (.ref S); Builtin.List.listUpdate (.ref S) (fun _ => #[]); letGo old.toList.reverse; Builtin.List.listExtendWith (.ref S) (.ref z) .none) _ _ s
  refine wpAny_bind ?_
  unfold Builtin.List.listItems
  refine wpAny_bind (wpAny_seqItems hS rfl (wpAny_pure ?_))
  show wpAny _ _ (updateSeq S (fun _ => #[]) >>= fun _ => letGo (#[] : Array Value).toList.reverse >>= fun _ => Builtin.List.listExtendWith (.ref S) (.ref z) .none) _ _ s
  refine wpAny_bind (wpAny_updateSeq hS rfl ?_)
  have hS₂ := Heap.get?_update_self (Obj.mapSeq (fun _ => (#[] : Array Value))) hS rfl
  have oth : ∀ b o, b ≠ S → s.heap.get? b = some o → (s.heap.update S (Obj.mapSeq (fun _ => (#[] : Array Value)))).get? b = some o :=
    fun b o hb e => (Heap.get?_update_other _ _ (Ne.symm hb)).trans e
  refine wpAny_bind (wpAny_letGo ?_)
  refine zl_extend hh D hTITO hS5 hn hn2 .none (st.keep fun c o hc e => oth c o (five c hc) e) (tup_keep hl1 fun o e => oth _ o (Nat.ne_of_lt hS5.2.2.2.2.2.1) e) (tup_keep hl2 fun o e => oth _ o (Nat.ne_of_lt hS5.2.2.2.2.2.2) e) _ hS₂ (fun h' tk acc c as hk hS' hl hG hacc => ?_)
  exact hR h' tk acc c as (fun b o c1 c2 c3 c4 c5 e => hk b o c1 c2 c3 c4 c5 (oth b o c1 e)) hS' hl hG hacc
theorem zl_call {n : Nat} {Q : Value → Shared → Prop} (hh : A.handled = none) (D : ZipApart z TI TO i1 i2 l1 l2) (hTITO : TI ≠ z ∧ TI ≠ i1 ∧ TI ≠ i2) (hn : n = min xs.size ys.size) (hn2 : n ≤ sizeLine)
    (st : ZT s.heap z TI TO i1 i2 l1 l2 0) (hl1 : s.heap.IsTuple l1 xs) (hl2 : s.heap.IsTuple l2 ys)
    (hQ : ∀ h' tk acc c as, (∀ b o, b ≠ z → b ≠ TO → b ≠ i1 → b ≠ i2 → s.heap.get? b = some o → h'.get? b = some o) → h'.get? s.heap.objs.size = some { cls := .type "list", dict := none, data := .seq acc c, slots := #[] } → as.length = n → ZG xs ys s.heap.objs.size h' as →
      acc.toList = as.map Value.ref → Q (.ref s.heap.objs.size) { s with heap := h', toks := tk }) :
    wpAny (model prog w) A (call (.type "list") [.ref z]) Q E s := by
  refine callType_codes (Q₁ := fun obj s₁ => obj = .ref s.heap.objs.size ∧ s₁ = { s with heap := s.heap.push { cls := .type "list", data := .seq #[] } }) PySem.F.called_list (PySem.F.typeCall_list_1 _) PySem.F.entry_list_init
    (code_list_new _ ⟨rfl, rfl⟩) fun obj s₁ h₁ => ?_
  obtain ⟨rfl, rfl⟩ := h₁
  have hS : (s.heap.push { cls := .type "list", data := .seq #[] }).get? s.heap.objs.size = some { cls := .type "list", data := .seq #[] } := Heap.get?_push_size _ rfl
  have lz : z < s.heap.objs.size := by obtain ⟨_, _, e, _⟩ := st.st; exact Heap.lt_size e
  have lTI : TI < s.heap.objs.size := Heap.lt_size st.ti
  have lTO : TO < s.heap.objs.size := by obtain ⟨_, _, e⟩ := st.to; exact Heap.lt_size e
  have li1 : i1 < s.heap.objs.size := by obtain ⟨_, e, _⟩ := st.t1; exact Heap.lt_size e
  have li2 : i2 < s.heap.objs.size := by obtain ⟨_, e, _⟩ := st.t2; exact Heap.lt_size e
  have ll1 : l1 < s.heap.objs.size := by obtain ⟨_, e, _⟩ := hl1; exact Heap.lt_size e
  have ll2 : l2 < s.heap.objs.size := by obtain ⟨_, e, _⟩ := hl2; exact Heap.lt_size e
  refine ⟨⟨_, hS, rfl⟩, PySem.F.args_list_init_2 _ _, zl_init (A := A.in1) hh D hTITO ⟨lz, lTI, lTO, li1, li2, ll1, ll2⟩ hn hn2 (st.keep fun c o _ e => Heap.get?_push_of_some _ e) (tup_keep hl1 fun o e => Heap.get?_push_of_some _ e) (tup_keep hl2 fun o e => Heap.get?_push_of_some _ e) hS (fun h' tk acc c as hk hS' hl hG hacc => ?_)⟩
  exact ⟨rfl, hQ h' tk acc c as (fun b o c2 c3 c4 c5 e => hk b o (Nat.ne_of_lt (Heap.lt_size e)) c2 c3 c4 c5 (Heap.get?_push_of_some _ e)) hS' hl hG hacc⟩
end
end ZX
namespace Ap
open PySem PySem.Spec PyProof.Rows L2
/-! ### zip of two tuples, one name -/
theorem walk_zipT {K : PySem.W.Frag} {a b : Addr} {xs ys : List V} {n : Nat} (hn : n = min xs.length ys.length) : Walk (RZ.ItzT K a b) n (fun H => SqT K H a xs ∧ SqT K H b ys) (YPair (fun i => xs[i]?) (fun i => ys[i]?)) := by
  subst hn
  refine ⟨fun i _ hi q => ?_, fun _ q => ⟨xs, ys, q.1, q.2, by omega⟩, fun i H v H' _ q y => ?_⟩
  · have h1 : i < xs.length := by omega
    have h2 : i < ys.length := by omega
    exact ⟨xs, ys, xs[i], ys[i], q.1, q.2, by simp [h1], by simp [h2]⟩
  · obtain ⟨T, x, z, h1, h2, h3, h4, h5⟩ := y
    exact ⟨T, x, z, h1, h2, h3, h4 xs q.1, h5 ys q.2⟩
theorem turn_zipN {P : Program} {w : World} {K : PySem.W.Frag} {x : Str} {tpos : Pos} {a b z TI TO i1 i2 : Addr} (D : ZipApart z TI TO i1 i2 a b) :
    Turn P w K (.Name x tpos) (RZ.ItzT K a b) [z, TI, TO, i1, i2] z (fun i h => ZX.ZT h z TI TO i1 i2 a b i) where
  mem := by simp
  obj := fun i h st c hc => by
    obtain ⟨⟨_, _, hz, _⟩, hTI, ⟨x, y, hTO⟩, ⟨o1, e1, _, d1⟩, ⟨o2, e2, _, d2⟩⟩ := st
    have e' : c = z ∨ c = TI ∨ c = TO ∨ c = i1 ∨ c = i2 := by simpa using hc
    rcases e' with q | q | q | q | q
    · rw [q]; exact ⟨_, hz, fun v q => nomatch q⟩
    · rw [q]; exact ⟨_, hTI, fun v q => nomatch q⟩
    · rw [q]; exact ⟨_, hTO, fun v q => nomatch q⟩
    · rw [q]; exact ⟨o1, e1, fun v q => by rw [d1] at q; cases q⟩
    · rw [q]; exact ⟨o2, e2, fun v q => by rw [d2] at q; cases q⟩
  keep := fun i h h' st k => st.keep fun c o hc e => k c (by simpa using hc) o e
  item := by
    intro X hP hw hK hc i pins s σ H E I hf st hg
    subst hP hw hK
    obtain ⟨hz, hTI, ⟨x0, y0, hTO⟩, h1, h2⟩ := id st
    obtain ⟨xs, ys, x, y, hqx, hqy, hx, hy⟩ := hg
    obtain ⟨its, rv, p, _⟩ := I.tuple hqx
    obtain ⟨its2, rv2, p2, _⟩ := I.tuple hqy
    obtain ⟨u, hu, ru⟩ := rv.get hx
    obtain ⟨u2, hu2, ru2⟩ := rv2.get hy
    have hzl : z < s.heap.objs.size := by obtain ⟨_, _, e, _⟩ := hz; exact Heap.lt_size e
    refine ZX.pyNext_item D hz hTI hTO h1 h2 p p2 (x := u) (y := u2) (by simpa using hu) (by simpa using hu2) fun h' z' TO' h1' h2' hT hsz hk => ?_
    refine ⟨_, rfl, ?_⟩
    unfold letOwnedTupleGo
    refine wpAny_pure ?_
    have new : ObjOk X.prog X.w (upd H s.heap.objs.size (.tup [x, y])) h' s.heap.objs.size (.tup [x, y]) :=
      ⟨by show 2 ≤ sizeLine; decide, [u, u2], .cons ru (.cons ru2 .nil), ⟨_, hT, rfl, _, rfl⟩⟩
    have I1 : Inv X pins σ (upd H s.heap.objs.size (.tup [x, y])) { s with heap := h' } :=
      I.turnedNew (t' := s.toks) (ch := [z, TI, TO, i1, i2]) (fun c o hb q => hk c o (fun q' => hb (by simp [q'])) (fun q' => hb (by simp [q'])) (fun q' => hb (by simp [q'])) (fun q' => hb (by simp [q'])) q) hf (Nat.le_refl _) new
    refine ⟨.ref s.heap.objs.size, _, I1, rfl, ⟨_, x, y, rfl, I.hok.fresh (Nat.le_refl _), rfl, fun l hl => by rw [I.tuple_inj hl hqx]; exact hx, fun l hl => by rw [I.tuple_inj hl hqy]; exact hy⟩, ⟨z', ?_, TO', h1', h2'⟩, fun c hcm => ?_⟩
    · exact hk _ _ D.TIz D.TITO D.TIi1 D.TIi2 hTI
    · have hlt : c < s.heap.objs.size := by
        have e' : c = z ∨ c = TI ∨ c = TO ∨ c = i1 ∨ c = i2 := by simpa using hcm
        rcases e' with q | q | q | q | q
        · rw [q]; exact hzl
        · rw [q]; exact Heap.lt_size hTI
        · rw [q]; exact Heap.lt_size hTO
        · rw [q]; obtain ⟨_, e1, _⟩ := h1; exact Heap.lt_size e1
        · rw [q]; obtain ⟨_, e2, _⟩ := h2; exact Heap.lt_size e2
      rw [upd_ne (Nat.ne_of_lt hlt)]
      exact (hf c hcm).1
  done := by
    intro X hP hw hK hc i pins s σ H E I hf st hg
    subst hP hw hK
    obtain ⟨hz, hTI, ⟨x0, y0, hTO⟩, h1, h2⟩ := st
    obtain ⟨xs, ys, hqx, hqy, hend⟩ := hg
    obtain ⟨its, rv, p, _⟩ := I.tuple hqx
    obtain ⟨its2, rv2, p2, _⟩ := I.tuple hqy
    have l1 := rv.length
    have l2 := rv2.length
    have he : its.toArray[i]? = none ∨ its2.toArray[i]? = none := by
      rcases hend with q | q
      · exact .inl (by simp; omega)
      · exact .inr (by simp; omega)
    exact ZX.pyNext_end (I.ok.hd hc) D hz hTI hTO h1 h2 p p2 he fun h' hk => ⟨rfl, I.turnedL (t' := s.toks) (ch := [z, TI, TO, i1, i2]) (fun c o hb q =>
      hk c o (fun q' => hb (by simp [q'])) (fun q' => hb (by simp [q'])) (fun q' => hb (by simp [q'])) (fun q' => hb (by simp [q'])) q) hf⟩
  self := fun A i s Q E st h => by
    obtain ⟨f0, f1, hz, _⟩ := st.st
    have hT : s.TypeIs (.ref z) "zip" := ⟨_, hz, rfl⟩
    refine wpAny_pyIter_slot hT F.slot_zip_iter (wpAny_call_entry F.slot_zip_iter hT F.entry_zip_iter ?_ (F.args_zip_iter_1 _))
    show wpAny _ _ (ret (.ref z)) _ _ s
    exact wpAny_pure ⟨_, rfl, "zip", _, hT, F.slot_zip_next.lookup, h⟩
def iZipN (K : PySem.W.Frag) (ta : TA) : TI := fun σ H R => ta σ H fun vs H1 => ∃ a b xs ys, vs = [.ref a, .ref b] ∧ SqT K H1 a xs ∧ SqT K H1 b ys ∧ R (RZ.ItzT K a b) H1
/-- the parts of a new zip object are fresh and apart -/
theorem zip_new {X : Cx} {pins : List (Addr × Obj)} {σ : L2.St} {H1 : Hp} {s1 : Shared} (I1 : Inv X pins σ H1 s1) : ∀ c, c ∈ [s1.heap.objs.size + 4, s1.heap.objs.size + 2, s1.heap.objs.size + 3, s1.heap.objs.size, s1.heap.objs.size + 1] → FpOk X pins H1 c := fun c hcm => by
  have e' : c = s1.heap.objs.size + 4 ∨ c = s1.heap.objs.size + 2 ∨ c = s1.heap.objs.size + 3 ∨ c = s1.heap.objs.size ∨ c = s1.heap.objs.size + 1 := by simpa using hcm
  have hle : s1.heap.objs.size ≤ c := by
    rcases e' with z | z | z | z | z
    · rw [z]; exact Nat.le_add_right _ _
    · rw [z]; exact Nat.le_add_right _ _
    · rw [z]; exact Nat.le_add_right _ _
    · rw [z]; exact Nat.le_refl _
    · rw [z]; exact Nat.le_add_right _ _
  exact I1.fpOk hle (I1.hok.fresh hle)
theorem pi_zipN {X : Cx} {e e2 : Expr} {ta : TA} {x : Str} {p pos tpos : Pos} (hg : Gl X "zip") (hm : X.mg "zip" = none) (ha : PA X [e, e2] ta)
    (hs : starEach [e, e2] X.env = (false, eval e X.env) :: starEach [e2] X.env := by rfl) (hpl : (backTo pos (starEach [e2] X.env)).any (·.1) = false := by rfl) :
    PI X (.Name x tpos) (.Call (.Name "zip" p) [e, e2] [] pos) (iZipN X.K ta) := by
  refine ⟨fun pins s σ H R I h => ?_⟩
  refine Call_ (ld_blt I hg hm PyProof.Rows.boot_zip (PyProof.Rows.callWith_type1 (thn (ha.run pos pins s σ H _ I h) fun us s1 ⟨vs, H1, I1, r1, q1⟩ => ?_) hs hpl))
  obtain ⟨a, b, xs, ys, ex, hqx, hqy, q⟩ := q1
  subst ex
  cases r1 with
  | cons r rr =>
    cases rr with
    | cons r' rr =>
      cases rr
      cases r
      cases r'
      obtain ⟨its, rv, p1, _⟩ := I1.tuple hqx
      obtain ⟨its2, rv2, p2, _⟩ := I1.tuple hqy
      obtain ⟨o1, ho1, _⟩ := id p1
      obtain ⟨o2, ho2, _⟩ := id p2
      refine RZ.call_zipT (show s1.heap.IsTuple a its.toArray from p1) (show s1.heap.IsTuple b its2.toArray from p2) fun h' hz hTI hTO h1 h2 hsz hk => ?_
      have I2 : Inv X pins σ H1 { s1 with heap := h' } := I1.kept (t' := s1.toks) hk
      have T := turn_zipN (P := X.prog) (w := X.w) (K := X.K) (x := x) (tpos := tpos) (PySem.W.ktu_apart s1.heap.objs.size a b (Heap.lt_size ho1) (Heap.lt_size ho2))
      have st : ZX.ZT h' (s1.heap.objs.size + 4) (s1.heap.objs.size + 2) (s1.heap.objs.size + 3) s1.heap.objs.size (s1.heap.objs.size + 1) a b 0 := ⟨⟨_, _, hz, .inl rfl⟩, hTI, ⟨_, _, hTO⟩, h1, h2⟩
      exact T.self _ 0 _ _ _ st ⟨s1.heap.objs.size + 4, [s1.heap.objs.size + 4, s1.heap.objs.size + 2, s1.heap.objs.size + 3, s1.heap.objs.size, s1.heap.objs.size + 1], _, _, H1, rfl, I2, T, st, zip_new I1, q⟩
/-! ### list(zip(a, b)) -/
def putT2 : Hp → List Addr → List (V × V) → Hp
  | H, a :: as, p :: kvs => putT2 (upd H a (.tup [p.1, p.2])) as kvs
  | H, _, _ => H
theorem putT2_off {b : Addr} : ∀ (as : List Addr) (kvs : List (V × V)) (H : Hp), b ∉ as → putT2 H as kvs b = H b
  | [], _, _, _ => rfl
  | _ :: _, [], _, _ => rfl
  | a :: as, p :: kvs, H, h => by
    show putT2 (upd H a (.tup [p.1, p.2])) as kvs b = H b
    rw [putT2_off as kvs _ (fun z => h (List.mem_cons_of_mem _ z)), upd_ne (fun z => h (by rw [z]; exact List.mem_cons_self))]
theorem putT2_at : ∀ (as : List Addr) (kvs : List (V × V)) (H : Hp), as.length = kvs.length → as.Nodup → Paired (fun (t : Addr) (p : V × V) => putT2 H as kvs t = some (.tup [p.1, p.2])) as kvs
  | [], [], _, _, _ => .nil
  | [], _ :: _, _, h, _ => by cases h
  | _ :: _, [], _, h, _ => by cases h
  | a :: as, p :: kvs, H, h, hn => by
    have hn' := List.nodup_cons.mp hn
    have ih := putT2_at as kvs (upd H a (.tup [p.1, p.2])) (Nat.succ.inj h) hn'.2
    refine .cons ?_ ih
    show putT2 (upd H a (.tup [p.1, p.2])) as kvs a = some (.tup [p.1, p.2])
    rw [putT2_off as kvs _ hn'.1, upd_same]
theorem zip_laid {X : Cx} {pins : List (Addr × Obj)} {σ : L2.St} {H : Hp} {s : Shared} {h' : Heap} {tk : Nat} {xs ys : List V} {us ws : List Value} {acc : Array Value} {c : Nat} {as : List Addr} {S z TO i1 i2 : Addr} (I : Inv X pins σ H s) (r1 : Vals xs us) (r2 : Vals ys ws)
    (hf : ∀ b ∈ [z, TO, i1, i2], FpOk X pins H b) (hSn : s.heap.objs.size ≤ S) (hz : (xs.zip ys).length ≤ sizeLine)
    (hk : ∀ b o, b ≠ z → b ≠ TO → b ≠ i1 → b ≠ i2 → s.heap.get? b = some o → h'.get? b = some o) (hS : h'.get? S = some { cls := .type "list", dict := none, data := .seq acc c, slots := #[] }) (hl : as.length = (xs.zip ys).length) (hG : ZX.ZG us.toArray ws.toArray S h' as) (hacc : acc.toList = as.map Value.ref) :
    ∃ H' : Hp, (∀ b o, H b = some o → H' b = some o) ∧ H S = none ∧ (∀ t ∈ as, H t = none) ∧ H' S = some (.lst (as.map V.ref)) ∧ Paired (fun (t : Addr) (q : V × V) => H' t = some (.tup [q.1, q.2])) as (xs.zip ys) ∧ Inv X pins σ H' { s with heap := h', toks := tk } := by
  have hSas : S ∉ as := fun z => Nat.lt_irrefl _ (hG.above _ z)
  have nd : as.Nodup := List.Pairwise.imp (fun {a b} (h : a < b) => Nat.ne_of_lt h) hG.rise
  have new : ∀ t ∈ as, H t = none := fun t ht => I.hok.fresh (Nat.le_of_lt (Nat.lt_of_le_of_lt hSn (hG.above t ht)))
  have newS : H S = none := I.hok.fresh hSn
  have atP := putT2_at as (xs.zip ys) (upd H S (.lst (as.map V.ref))) hl nd
  have off : ∀ b, b ∉ as → b ≠ S → putT2 (upd H S (.lst (as.map V.ref))) as (xs.zip ys) b = H b := fun b h1 h2 => by rw [putT2_off as _ _ h1, upd_ne h2]
  have low : ∀ b o, s.heap.get? b = some o → b ∉ as ∧ b ≠ S := fun b o e => ⟨fun z => absurd (Heap.lt_size e) (Nat.not_lt.mpr (Nat.le_of_lt (Nat.lt_of_le_of_lt hSn (hG.above b z)))), Nat.ne_of_lt (Nat.lt_of_lt_of_le (Heap.lt_size e) hSn)⟩
  have kp : ∀ b u, H b = some u → (putT2 (upd H S (.lst (as.map V.ref))) as (xs.zip ys)) b = some u := fun b u e => by
    rw [off b (fun z => by rw [new b z] at e; cases e) (fun z => by rw [z, newS] at e; cases e)]
    exact e
  have eS : putT2 (upd H S (.lst (as.map V.ref))) as (xs.zip ys) S = some (.lst (as.map V.ref)) := by rw [putT2_off as _ _ hSas, upd_same]
  have ne4 : ∀ b o, H b = some o → b ≠ z ∧ b ≠ TO ∧ b ≠ i1 ∧ b ≠ i2 := fun b o e => by
    have f : ∀ c ∈ [z, TO, i1, i2], b ≠ c := fun c hc q => by
      rw [q, (hf c hc).1] at e
      cases e
    exact ⟨f z (by simp), f TO (by simp), f i1 (by simp), f i2 (by simp)⟩
  refine ⟨putT2 (upd H S (.lst (as.map V.ref))) as (xs.zip ys), kp, newS, new, eS, atP, ?_⟩
  refine I.call' (ch := [z, TO, i1, i2]) rfl ⟨fun b o q _ _ hx => ?_, fun b o q _ _ hx => ⟨o.slots, ?_⟩, fun b o q n _ => ?_, fun b o q hx => ⟨o, ?_⟩, fun b xs q => kp b _ q, fun b o u q => kp b _ q, fun b ps q => ⟨#[], by rw [kp b _ q]; simp⟩⟩ (fun b u q => ?_) I.bare fun b hb => ?_
  · exact hk b o (fun e => hx (by simp [e])) (fun e => hx (by simp [e])) (fun e => hx (by simp [e])) (fun e => hx (by simp [e])) q
  · exact hk b o (fun e => hx (by simp [e])) (fun e => hx (by simp [e])) (fun e => hx (by simp [e])) (fun e => hx (by simp [e])) q
  · obtain ⟨z1, z2⟩ := low b o q
    rw [off b z1 z2]
    exact n
  · exact hk b o (fun e => hx (by simp [e])) (fun e => hx (by simp [e])) (fun e => hx (by simp [e])) (fun e => hx (by simp [e])) q
  · by_cases hb : b ∈ as
    · obtain ⟨j, pk, e1, e2, e3⟩ := LiI.paired_ix atP hb
      rw [e3] at q
      cases q
      obtain ⟨x, y, f1, f2, f3⟩ := hG.pairs j b e1
      have e4 := List.getElem?_zip_eq_some.mp e2
      obtain ⟨u1, g1, g2⟩ := r1.get e4.1
      obtain ⟨u2, g3, g4⟩ := r2.get e4.2
      have f1' : us[j]? = some x := by simpa using f1
      have f2' : ws[j]? = some y := by simpa using f2
      rw [g1] at f1'
      rw [g3] at f2'
      cases f1'
      cases f2'
      exact ⟨by show 2 ≤ sizeLine; decide, [x, y], .cons g2 (.cons g4 .nil), ⟨_, f3, rfl, _, rfl⟩⟩
    · by_cases hb2 : b = S
      · rw [hb2] at q ⊢
        rw [eS] at q
        cases q
        refine ⟨by rw [List.length_map, hl]; exact hz, acc.toList, c, by rw [hacc]; exact LiI.vals_refs as, ?_⟩
        rw [Array.toArray_toList]
        exact hS
      · rw [off b hb hb2] at q
        refine (I.hok b u q).stay (fun d v hd y => ?_) (fun d y => kp d _ y) fun d xs y => kp d _ y
        have hd4 : d ≠ z ∧ d ≠ TO ∧ d ≠ i1 ∧ d ≠ i2 := by
          rcases hd with e | e
          · rw [e]; exact ne4 b u q
          · exact ne4 d _ e
        exact hk d v hd4.1 hd4.2.1 hd4.2.2.1 hd4.2.2.2 y
  · obtain ⟨_, f1, _, f3, f4, f5⟩ := hf b hb
    exact ⟨f3, f1, f4, f5⟩
/-- list(zip(e, e2)) -/
def rListZip (K : PySem.W.Frag) : List V → Hp → VK → Prop := fun vs H Q => ∃ (a b : Addr) (xs ys : List V), vs = [.ref a, .ref b] ∧ SqT K H a xs ∧ SqT K H b ys ∧
  ∀ (H' : Hp) (p : Addr) (ts : List Addr), (∀ b o, H b = some o → H' b = some o) → H p = none → (∀ t ∈ ts, H t = none) → H' p = some (.lst (ts.map V.ref)) → Paired (fun (t : Addr) (q : V × V) => H' t = some (.tup [q.1, q.2])) ts (xs.zip ys) → Q (.ref p) H'
theorem pe_listZip {X : Cx} {e e2 : Expr} {ta : TA} {p p2 cpos pos : Pos} (hc : X.calm = true) (hg : Gl X "list") (hm : X.mg "list" = none) (hg2 : Gl X "zip") (hm2 : X.mg "zip" = none) (ha : PA X [e, e2] ta)
    (hs : starEach [.Call (.Name "zip" p2) [e, e2] [] cpos] X.env = (false, eval (.Call (.Name "zip" p2) [e, e2] [] cpos) X.env) :: starEach [] X.env := by rfl)
    (hs2 : starEach [e, e2] X.env = (false, eval e X.env) :: starEach [e2] X.env := by rfl) (hpl : (backTo cpos (starEach [e2] X.env)).any (·.1) = false := by rfl) :
    PE X (.Call (.Name "list" p) [.Call (.Name "zip" p2) [e, e2] [] cpos] [] pos) (tCB (rListZip X.K) ta) := by
  refine ⟨fun pins s σ H Q I h => ?_⟩
  refine wpAny_Call_Name_kw (ld_blt I hg hm PyProof.Rows.boot_list ?_)
  refine PyProof.Rows.callWith_type1 ?_ hs rfl
  rw [hs]
  show wpAny _ _ (spliced ((false, eval (.Call (.Name "zip" p2) [e, e2] [] cpos) X.env) :: backTo pos (starEach [] X.env))) _ _ s
  refine Calls.spliced_cons ?_
  refine Call_ (ld_blt I hg2 hm2 PyProof.Rows.boot_zip (PyProof.Rows.callWith_type1 (thn (ha.run cpos pins s σ H _ I h) fun us s1 ⟨vs, H1, I1, r1, q1⟩ => ?_) hs2 hpl))
  obtain ⟨a, b, xs, ys, ex, hqx, hqy, q⟩ := q1
  subst ex
  cases r1 with
  | cons r rr =>
    cases rr with
    | cons r' rr =>
      cases rr
      cases r
      cases r'
      obtain ⟨its, rv, p1, hz1⟩ := I1.tuple hqx
      obtain ⟨its2, rv2, p2', hz2⟩ := I1.tuple hqy
      obtain ⟨o1, ho1, _⟩ := id p1
      obtain ⟨o2, ho2, _⟩ := id p2'
      refine RZ.call_zipT (show s1.heap.IsTuple a its.toArray from p1) (show s1.heap.IsTuple b its2.toArray from p2') fun h' hz hTI hTO h1 h2 hsz hk => ?_
      have I2 : Inv X pins σ H1 { s1 with heap := h' } := I1.kept (t' := s1.toks) hk
      have st : ZX.ZT h' (s1.heap.objs.size + 4) (s1.heap.objs.size + 2) (s1.heap.objs.size + 3) s1.heap.objs.size (s1.heap.objs.size + 1) a b 0 := ⟨⟨_, _, hz, .inl rfl⟩, hTI, ⟨_, _, hTO⟩, h1, h2⟩
      have D := PySem.W.ktu_apart s1.heap.objs.size a b (Heap.lt_size ho1) (Heap.lt_size ho2)
      have l1 := rv.length
      have l2 := rv2.length
      have hzl : (xs.zip ys).length = min its.toArray.size its2.toArray.size := by rw [List.length_zip]; simp; omega
      refine Calls.spliced_nil ?_
      refine ZX.zl_call (I1.ok.hd hc) D ⟨D.TIz, D.TIi1, D.TIi2⟩ hzl (by rw [List.length_zip]; omega) st (ZX.tup_keep (show s1.heap.IsTuple a its.toArray from p1) fun o e => hk _ o e) (ZX.tup_keep (show s1.heap.IsTuple b its2.toArray from p2') fun o e => hk _ o e) fun h'' tk acc c as hk2 hS hl hG hacc => ?_
      have F5 := zip_new I1
      obtain ⟨H', k1, k2, k3, k4, k5, J⟩ := zip_laid (tk := tk) (S := h'.objs.size) (z := s1.heap.objs.size + 4) (TO := s1.heap.objs.size + 3) (i1 := s1.heap.objs.size) (i2 := s1.heap.objs.size + 1) I2 rv rv2
        (fun b hb => F5 b (by simp at hb ⊢; rcases hb with q | q | q | q <;> simp [q])) (Nat.le_refl _) (by rw [List.length_zip]; omega) hk2 hS hl hG hacc
      exact ⟨.ref _, H', J, rfl, q H' _ as k1 k2 k3 k4 k5⟩
end Ap
set_option Elab.async false
set_option linter.all false
set_option maxRecDepth 100000
set_option maxHeartbeats 2000000
/-! enumerate of a tuple -/
namespace EX
open PySem
open PySem.Sem (wp)
open AutoSeq1 (wpAny_loadPart')
theorem meets_enumerate_newT (l : Addr) (items : Array Value) (n : Nat) (dct : Option Addr) (sl : Array (Option Value)) :
    Meets (Builtin.«enumerate.__new__» ⟨[.type "enumerate", .ref l], []⟩) (fun _ R s => s.heap.get? l = some { cls := .type "tuple", dict := dct, data := .seq items n, slots := sl } ∧
      R (.ok (.ret (.ref (s.heap.push { cls := .type "tuple_iterator", data := .fields #[.ref l, .int 0 0] }).objs.size)))
        { s with heap := (s.heap.push { cls := .type "tuple_iterator", data := .fields #[.ref l, .int 0 0] }).push { cls := .type "enumerate", data := .fields #[.none, .bool false, .ref s.heap.objs.size, rawInt 0, .none, .none] } }) :=
  .of_wp fun prog w A R s h => by
    obtain ⟨hp, g, d, tk, os⟩ := s; obtain ⟨hl, h⟩ := h
    have hsub := sub_enumerate
    have hL : Heap.IsTuple (Shared.heap ⟨hp, g, d, tk, os⟩) l items := ⟨_, hl, rfl, n, rfl⟩
    wp_walk using wpAny_loadPart' hl
    refine wpAny_stack_any fun st => wpAny_pure ?_
    split
    · rename_i c _ _ _ _ _
      cases (c == Value.type "enumerate")
      · wp_walk using wpAny_loadPart' hl, wpAny_pyIter_tuple hL
        exact ⟨_, rfl, h⟩
      · wp_walk using wpAny_loadPart' hl, wpAny_pyIter_tuple hL
        exact ⟨_, rfl, h⟩
    · wp_walk using wpAny_loadPart' hl, wpAny_pyIter_tuple hL
      exact ⟨_, rfl, h⟩
section
variable {prog : Program} {w : World} {A : Around} {E : Value → Shared → Prop} {s : Shared}
theorem call_enumerate_tuple {l : Addr} {items : Array Value} {Q : Value → Shared → Prop} (hL : s.heap.IsTuple l items)
    (h : ∀ h', IsEnum h' (s.heap.objs.size + 1) s.heap.objs.size 0 .none → h'.IsTupleIter s.heap.objs.size l 0 → h'.objs.size = s.heap.objs.size + 2 →
      (∀ b o, s.heap.get? b = some o → h'.get? b = some o) → Q (.ref (s.heap.objs.size + 1)) { s with heap := h' }) :
    wpAny (model prog w) A (call (.type "enumerate") [.ref l]) Q E s := by
  obtain ⟨⟨c, dct, dt, sl⟩, hl, hc, n, hd⟩ := hL
  replace hc : c = .type "tuple" := hc
  replace hd : dt = .seq items n := hd
  subst hc hd
  refine callType_new F.called_enumerate (by decide) (F.typeCall_enumerate_1 _) (F.newCall_enumerate_1 _) (fun obj => F.args_object_init_2 obj _) F.entry_enumerate_new
    (meets_enumerate_newT l items n dct sl) ⟨hl, ?_⟩
  have hz : (s.heap.push { cls := .type "tuple_iterator", data := .fields #[.ref l, .int 0 0] }).objs.size = s.heap.objs.size + 1 := Heap.size_push ..
  show _ ∧ _
  rw [hz]
  have he : IsEnum ((s.heap.push { cls := .type "tuple_iterator", data := .fields #[.ref l, .int 0 0] }).push
      { cls := .type "enumerate", data := .fields #[.none, .bool false, .ref s.heap.objs.size, rawInt 0, .none, .none] }) (s.heap.objs.size + 1) s.heap.objs.size 0 .none := by
    have := Heap.get?_push_size (s.heap.push { cls := .type "tuple_iterator", data := .fields #[.ref l, .int 0 0] })
      (o := { cls := .type "enumerate", data := .fields #[.none, .bool false, .ref s.heap.objs.size, rawInt 0, .none, .none] }) rfl
    rw [hz] at this; exact this
  refine ⟨⟨_, he, rfl⟩, h _ he ⟨_, Heap.get?_push_of_some _ (Heap.get?_push_size _ rfl), rfl, rfl⟩ (by rw [Heap.size_push, hz]) fun b o x => Heap.get?_push_of_some _ (Heap.get?_push_of_some _ x)⟩
theorem enum_endT {e it l : Addr} {items : Array Value} {i : Nat} {c : Int} {old : Value} {Q : Option Value → Shared → Prop} (hh : A.handled = none) (he : IsEnum s.heap e it c old) (hit : s.heap.IsTupleIter it l i) (hl : s.heap.IsTuple l items) (hx : items[i]? = none)
    (hQ : ∀ h', Heap.ExtBut it s.heap h' → Q none { s with heap := h' }) : wpAny (model prog w) A (pyNext (.ref e)) Q E s := by
  have hT : s.TypeIs (.ref e) "enumerate" := ⟨_, he, rfl⟩
  unfold pyNext
  refine wpAny_bind (wpAny_attempt (wpAny_callSpecial?_slot (name := Str.ofString "__next__") hT F.slot_enumerate_next
    (wpAny_call_entry F.slot_enumerate_next hT F.entry_enumerate_next ?_ (F.args_enumerate_next_1 _))))
  show wpAny _ _ (field (.ref e) 2 >>= _) _ _ _
  refine wpAny_bind (wpAny_field he rfl (x := .ref it) rfl ?_)
  refine wpAny_bind (RZ.nextOf_tuple_end (A := A.in1) hh hit hl hx fun h' x he' hx' => ?_)
  obtain ⟨o, ho, hc⟩ := hx'
  refine wpAny_bind (wpAny_isInstance (T := "StopIteration") (b := true) ⟨o, ho, hc⟩ isSubtype_stop ?_)
  exact wpAny_pure (hQ _ he')
end
end EX
namespace Ap
open PySem PySem.Spec PyProof.Rows L2
/-- the tuple at a as it stands at each turn, each item in a new pair -/
def IteT (K : PySem.W.Frag) (a : Addr) : It :=
  ⟨fun i H => ∃ (xs : List V) (x : V), SqT K H a xs ∧ xs[i]? = some x, fun i H v H' => ∃ T x, v = .ref T ∧ H T = none ∧ H' = upd H T (.tup [.int (i : Nat), x]) ∧ ∀ xs, SqT K H a xs → xs[i]? = some x, fun i H => ∃ xs : List V, SqT K H a xs ∧ xs.length ≤ i⟩
theorem turn_enumT {P : Program} {w : World} {K : PySem.W.Frag} {elts : List Expr} {kk : Nat} {tpos : Pos} (a e it : Addr) :
    Turn P w K (.Tuple elts kk tpos) (IteT K a) [e, it] e (fun i h => (∃ old, IsEnum h e it ((i : Nat) : Int) old) ∧ h.IsTupleIter it a i ∧ e ≠ it ∧ e ≠ a ∧ a ≠ it) where
  mem := by simp
  obj := fun i h st b hb => by
    obtain ⟨⟨old, he⟩, ⟨o, ho, hc, hd⟩, _⟩ := st
    have e' : b = e ∨ b = it := by simpa using hb
    rcases e' with z | z
    · rw [z]; exact ⟨_, he, fun v q => nomatch q⟩
    · rw [z]; exact ⟨o, ho, fun v q => by rw [hd] at q; cases q⟩
  keep := fun i h h' st k => let ⟨⟨old, he⟩, hi, hne⟩ := st; ⟨⟨old, k e (by simp) _ he⟩, hi.at fun o q => k it (by simp) o q, hne⟩
  item := by
    intro X hP hw hK hc i pins s σ H E I hf st hg
    subst hP hw hK
    obtain ⟨⟨old, he⟩, hit, hne, hea, hai⟩ := st
    obtain ⟨xs, x, hq, hx⟩ := hg
    obtain ⟨its, rv, p, hz⟩ := I.tuple hq
    obtain ⟨u, hu, ru⟩ := rv.get hx
    have hel : e < s.heap.objs.size := Heap.lt_size he
    have hil : it < s.heap.objs.size := by obtain ⟨_, q, _⟩ := hit; exact Heap.lt_size q
    have hlt : i < its.toArray.size := by simpa using (List.getElem?_eq_some_iff.mp hu).1
    refine wpAny_pyNext_enum_itemD (Draws.tuple (A := X.A.in1) (I.ok.hd hc) it a hai its.toArray) he ⟨hit, p⟩ hlt hne (by simp [hne, hea]) fun u' h' tk hP ho hst' hT hsz hk => ?_
    have eu : u' = u := by
      have hP' : its.toArray[i]? = some u' := hP
      have hu' : its.toArray[i]? = some u := by simpa using hu
      rw [hu'] at hP'
      exact (Option.some.inj hP').symm
    subst eu
    refine ⟨_, rfl, wpAny_letOwnedTupleGo_enum (s := { s with heap := h', toks := tk + 1 }) ho fun h'' he' sb => ?_⟩
    have hT2 : h''.get? s.heap.objs.size = some { cls := .type "tuple", data := .seq #[.int i tk, u'] } := (sb.2 _ (Nat.ne_of_gt hel)).trans hT
    have new : ObjOk X.prog X.w (upd H s.heap.objs.size (.tup [.int (i : Nat), x])) h'' s.heap.objs.size (.tup [.int (i : Nat), x]) :=
      ⟨by show 2 ≤ sizeLine; decide, [.int i tk, u'], .cons ⟨_, rfl⟩ (.cons ru .nil), ⟨_, hT2, rfl, _, rfl⟩⟩
    have I1 : Inv X pins σ (upd H s.heap.objs.size (.tup [.int (i : Nat), x])) { s with heap := h'', toks := tk + 1 } :=
      I.turnedNew (ch := [e, it]) (fun b ob hb q => (sb.2 b (fun z => hb (by simp [z]))).trans (hk b ob (fun z => hb (by simp [z])) (fun z => hb (by simp [z])) q)) hf (Nat.le_refl _) new
    refine ⟨.ref s.heap.objs.size, _, I1, rfl, ⟨_, x, rfl, I.hok.fresh (Nat.le_refl _), rfl, fun ys hy => by rw [I.tuple_inj hy hq]; exact hx⟩, ⟨⟨u', ?_⟩, hst'.1.at fun o q => (sb.2 it (Ne.symm hne)).trans q, hne, hea, hai⟩, fun b hb => ?_⟩
    · have e1 : ((i + 1 : Nat) : Int) = (i : Int) + 1 := by omega
      rw [e1]; exact he'
    · have hb' : b < s.heap.objs.size := by
        have e' : b = e ∨ b = it := by simpa using hb
        rcases e' with z | z
        · rw [z]; exact hel
        · rw [z]; exact hil
      rw [upd_ne (Nat.ne_of_lt hb')]
      exact (hf b hb).1
  done := by
    intro X hP hw hK hc i pins s σ H E I hf st hg
    subst hP hw hK
    obtain ⟨⟨old, he⟩, hit, hne, _⟩ := st
    obtain ⟨xs, hq, hx⟩ := hg
    obtain ⟨its, rv, p, hz⟩ := I.tuple hq
    obtain ⟨f0, f1, f2, f3, f4, f5⟩ := hf it (by simp)
    have hl := rv.length
    exact EX.enum_endT (I.ok.hd hc) he hit p (by simp; omega) fun h' eb => ⟨rfl, I.turned (t' := s.toks) (fun b o hb q => eb b o hb q) f0 f1 f3 f4 f5⟩
  self := fun A i s Q E st h => let ⟨⟨_, he⟩, _⟩ := st; wpAny_pyIter_enum he h
theorem walk_enumT {K : PySem.W.Frag} {a : Addr} {xs : List V} : Walk (IteT K a) xs.length (fun H => SqT K H a xs) (YPair (fun i => some (.int (i : Nat))) (fun i => xs[i]?)) := by
  refine ⟨fun i _ hi q => ⟨xs, xs[i], q, by simp [hi]⟩, fun _ q => ⟨xs, q, Nat.le_refl _⟩, fun i H v H' _ q y => ?_⟩
  obtain ⟨T, x, h1, h2, h3, h4⟩ := y
  exact ⟨T, .int (i : Nat), x, h1, h2, h3, rfl, h4 xs q⟩
/-- enumerate(e), e a list or a tuple -/
def iEnumA (K : PySem.W.Frag) (ta : TA) : TI := fun σ H R => ta σ H fun vs H1 => ∃ a xs, vs = [.ref a] ∧ ((SqL K H1 a xs ∧ R (Ite K a) H1) ∨ (SqT K H1 a xs ∧ R (IteT K a) H1))
theorem pi_enumA {X : Cx} {e : Expr} {ta : TA} {p pos tpos : Pos} {elts : List Expr} {kk : Nat} (hg : Gl X "enumerate") (hm : X.mg "enumerate" = none) (ha : PA X [e] ta) (hs : starEach [e] X.env = [(false, eval e X.env)] := by rfl) :
    PI X (.Tuple elts kk tpos) (.Call (.Name "enumerate" p) [e] [] pos) (iEnumA X.K ta) := by
  refine ⟨fun pins s σ H R I h => ?_⟩
  refine Call_ (ld_blt I hg hm boot_enumerate (PyProof.Rows.callWith_type1 (thn (ha.run pos pins s σ H _ I h) fun us s1 ⟨vs, H1, I1, r1, q1⟩ => ?_) hs rfl))
  obtain ⟨a, xs, ex, q1⟩ := q1
  subst ex
  cases r1 with
  | cons r rr =>
    cases rr
    cases r
    have fresh2 : ∀ b, b ∈ [s1.heap.objs.size + 1, s1.heap.objs.size] → FpOk X pins H1 b := fun b hb => by
      have e' : b = s1.heap.objs.size + 1 ∨ b = s1.heap.objs.size := by simpa using hb
      have hle : s1.heap.objs.size ≤ b := by
        rcases e' with z | z
        · rw [z]; exact Nat.le_add_right _ _
        · rw [z]; exact Nat.le_refl _
      exact I1.fpOk hle (I1.hok.fresh hle)
    rcases q1 with ⟨hq, q⟩ | ⟨hq, q⟩
    · obtain ⟨its, rv, p', hz⟩ := I1.list hq
      refine call_enumerate_list p'.isList fun h' he hit hsz hk => wpAny_pyIter_enum he ?_
      have I2 : Inv X pins σ H1 { s1 with heap := h' } := I1.kept (t' := s1.toks) hk
      exact ⟨s1.heap.objs.size + 1, [s1.heap.objs.size + 1, s1.heap.objs.size], _, _, H1, rfl, I2, turn_enum a (s1.heap.objs.size + 1) s1.heap.objs.size, ⟨⟨.none, he⟩, hit, Nat.succ_ne_self _⟩, fresh2, q⟩
    · obtain ⟨its, rv, p', hz⟩ := I1.tuple hq
      obtain ⟨o1, ho1, _⟩ := id p'
      have hal : a < s1.heap.objs.size := Heap.lt_size ho1
      refine EX.call_enumerate_tuple (show s1.heap.IsTuple a its.toArray from p') fun h' he hit hsz hk => wpAny_pyIter_enum he ?_
      have I2 : Inv X pins σ H1 { s1 with heap := h' } := I1.kept (t' := s1.toks) hk
      exact ⟨s1.heap.objs.size + 1, [s1.heap.objs.size + 1, s1.heap.objs.size], _, _, H1, rfl, I2, turn_enumT a (s1.heap.objs.size + 1) s1.heap.objs.size, ⟨⟨.none, he⟩, hit, Nat.succ_ne_self _, Nat.ne_of_gt (Nat.lt_succ_of_lt hal), Nat.ne_of_lt hal⟩, fresh2, q⟩
end Ap
set_option Elab.async false
set_option linter.all false
set_option maxRecDepth 100000
set_option maxHeartbeats 2000000
/-! Dict comprehensions whose keys are tuples. -/
namespace Ap
open PySem PySem.Spec PyProof.Rows L2
theorem d_dictSetT {X : Cx} {pins : List (Addr × Obj)} {σ : L2.St} {H : Hp} {s : Shared} {E : Value → Shared → Prop} {D b : Addr} {kvs : List (List Key × V)} {k : List Key} {v : V} {u r : Value} {Q : Unit → Shared → Prop} (hu : X.A.units + 1 < cLine) (I : Inv X pins σ H s) (hb : H D = some (.dT kvs)) (eb : H b = some (.tup (k.map kV)))
    (hz : kvs.length < sizeLine) (ry : RelV (.ref b) u) (rv : RelV v r) (h : ∀ s', Inv X pins σ (upd H D (.dT (putK kvs k v))) s' → Q () s') : wpAny (model X.prog X.w) X.A (dictSet D u r) Q E s := by
  cases (show u = Value.ref b from ry)
  obtain ⟨z, hd, xs, rel, dd⟩ := dt_of I.hok hb
  have hl : (putK kvs k v).length ≤ sizeLine := by have := length_putK kvs k v; omega
  have hzx : xs.length ≤ sizeLine := by rw [← Paired.length rel]; exact z
  refine wpAny_dictSet_heap (hsz := hzx) (show X.A.units < cLine by omega) (key_of I.hok eb) dd fun h' dd' hs => h _ ?_
  obtain ⟨q, es, ep, hq, h2, h3, h4, _, h5⟩ := dd'
  refine d_write I (by rw [hb]; exact True.intro) hs ⟨q, hq⟩ ⟨hl, hd, _, (rel.put k eb rv).keeps fun c ys ec => ?_, q, es, ep, hq, h2, h3, h4, h5⟩
  rw [upd_ne (ne_of ec hb (fun z => nomatch z))]
  exact ec
section
variable {X : Cx}
/-- a dict comprehension whose keys are tuples of ints and texts: D the new dict -/
def tDcT (wi : TI) (g : TG) (tt : TT) (tk tv : TE) (vs : List Nat) : TE := fun σ H Q => wi σ H fun J H1 => ∀ D, H1 D = none → ∃ W : Nat → Nat → Hp → Prop, (∃ m, W 0 m (upd H1 D (.dT []))) ∧ ∀ i m H, W i m H →
  (J.stop i H ∧ Q (.ref D) H) ∨ (J.go i H ∧ ∃ Nx : Hp → Prop, (∀ H', Nx H' → ∃ m', m' < m ∧ W (i + 1) m' H') ∧ ∀ x H', J.yld i H x H' → g x (wipe σ vs) H' fun σ2 H2 => wipe σ2 vs = wipe σ vs ∧ tt σ2 H2 fun b H3 =>
    if b = true then tk σ2 H3 fun y H4 => tv σ2 H4 fun z H5 => ∃ kvs k b, y = .ref b ∧ H5 b = some (.tup (k.map kV)) ∧ H5 D = some (.dT kvs) ∧ kvs.length < sizeLine ∧ Nx (upd H5 D (.dT (putK kvs k z))) else Nx H3)
theorem dcT_core {pins : List (Addr × Obj)} {s : Shared} {σ : L2.St} {H : Hp} {Q : VK} {kx vx tg iter : Expr} {ifs : List Expr} {scope : Scope} {own : List (Str × Nat)} {pos pos' : Pos} {wi : TI} {g : TG} {tt : TT} {tk tv : TE} {use : Option (Value → Sem Unit)} {Qf : Value → Shared → Prop}
    (hu : X.A.units + 1 < cLine) (hc : X.calm = true) (hN : X.N.Nodup) (I : Inv X pins σ H s) (hi : PI X tg iter wi) (ok : BlkOk X.N X.env.scope scope own)
    (hg : ∀ (s : Shared) (H : Hp) (C : Addr) (cl : List (Str × Addr)) (fp : List Addr), PG (X.blk s H scope (compEnvC scope cl C X.env) fp) tg g) (ht : ∀ (s : Shared) (H : Hp) (C : Addr) (cl : List (Str × Addr)) (fp : List Addr), PTs (X.blk s H scope (compEnvC scope cl C X.env) fp) ifs tt)
    (hk : ∀ (s : Shared) (H : Hp) (C : Addr) (cl : List (Str × Addr)) (fp : List Addr), PE (X.blk s H scope (compEnvC scope cl C X.env) fp) kx tk)
    (he : ∀ (s : Shared) (H : Hp) (C : Addr) (cl : List (Str × Addr)) (fp : List Addr), PE (X.blk s H scope (compEnvC scope cl C X.env) fp) vx tv) (hs : ∀ x, foldedSetIterable iter X.env x = pure x)
    (h : tDcT wi g tt tk tv (own.map (·.2)) σ H Q)
    (hRR : ∀ D C s' m H', Inv X pins σ H' s' → Q (.ref D) H' → s'.heap.Ns C m → FpOk X pins H' C → compPost (model X.prog X.w) X.A X.xe use Qf (.ref D) C (.ok .next) s') :
    wpAny (model X.prog X.w) X.A (comprehension (.DictComp kx vx [⟨tg, iter, ifs, 0⟩] scope pos) scope X.env pos' newDict false (eval iter X.env) use) Qf X.xe s := by
  have hfree : ∀ y ∈ scope.names, y.2 = .free → ∃ c, X.env.cells.lookup y.1 = some c := fun y hy e => by
    rcases ok.free y hy e with k | k
    · exact I.ok.has _ (.inl k)
    · exact I.ok.has _ (.inr k)
  refine wpAny_comprehension_free (use := use) rfl hs (closure_ok hfree) ok.kind (fun y hy e => by rw [ok.uniq y hy, e])
    (thn (hi.run pins s σ H _ I h) fun xv s1 hx => thn hx fun itv s2 h2 => ?_)
  obtain ⟨it, fp, tn, J, H2, e, I2, T, st2, f2, q⟩ := h2
  subst e
  refine wpAny_newObj_type (newEnv_comp ?_)
  generalize hD : s2.heap.objs.size = D
  have hDn : H2 D = none := I2.hok.fresh (Nat.le_of_eq hD)
  obtain ⟨W, ⟨m0, w0⟩, turn⟩ := q D hDn
  -- the new list
  generalize hs3 : ({ s2 with heap := s2.heap.push { cls := .type "dict", data := .dict #[] } } : Shared) = s3
  have I3 : Inv X pins σ (upd H2 D (.dT [])) s3 := by
    rw [← hs3]
    refine I2.laid (t' := s2.toks) (fun b o e => Heap.get?_push_of_some _ e) (Nat.le_of_eq hD) ?_
    rw [← hD]
    exact dt_empty s2.heap I2.big
  have h3 : s3.heap = s2.heap.push { cls := .type "dict", data := .dict #[] } := by rw [← hs3]
  have sz : ∀ b ∈ fp, b < s2.heap.objs.size := fun b hb => by
    obtain ⟨o, e, _⟩ := T.obj _ _ st2 b hb
    exact Heap.lt_size e
  have f3 : ∀ b ∈ fp, FpOk X pins (upd H2 D (.dT [])) b ∧ b < s3.heap.objs.size := fun b hb => by
    have hlt := sz b hb
    refine ⟨⟨?_, (f2 b hb).2⟩, by rw [h3, Heap.size_push]; exact Nat.lt_succ_of_lt hlt⟩
    rw [upd_ne (by rw [← hD]; exact Nat.ne_of_lt hlt)]
    exact (f2 b hb).1
  have st3 : tn 0 s3.heap := T.keep _ _ _ st2 fun b _ o e => by rw [h3]; exact Heap.get?_push_of_some _ e
  have I4 := block_start I3 ok hN f3
  have pg := hg s3 (upd H2 D (.dT [])) s3.heap.objs.size (cellsFrom (s3.heap.objs.size + 1) scope.names (cloFrom X.env.cells scope.names [])) fp
  have pt := ht s3 (upd H2 D (.dT [])) s3.heap.objs.size (cellsFrom (s3.heap.objs.size + 1) scope.names (cloFrom X.env.cells scope.names [])) fp
  have pk := hk s3 (upd H2 D (.dT [])) s3.heap.objs.size (cellsFrom (s3.heap.objs.size + 1) scope.names (cloFrom X.env.cells scope.names [])) fp
  have pe := he s3 (upd H2 D (.dT [])) s3.heap.objs.size (cellsFrom (s3.heap.objs.size + 1) scope.names (cloFrom X.env.cells scope.names [])) fp
  show codeAny _ _ (.compStart (.DictComp kx vx [⟨tg, iter, ifs, 0⟩] scope pos) 0 (.ref it) (.ref D) (compEnvC scope (cellsFrom (s3.heap.objs.size + 1) scope.names (cloFrom X.env.cells scope.names [])) s3.heap.objs.size X.env)) (compPost (model X.prog X.w) X.A X.xe use Qf (.ref D) s3.heap.objs.size) { s3 with heap := pushCells (s3.heap.push { cls := .type "dict", data := .dict #[] }) scope.names }
  have nfp : ∀ b ∈ fp, (upd H2 D (.dT [])) b = none := fun b hb => (f3 b hb).1.1
  generalize hce : compEnvC scope (cellsFrom (s3.heap.objs.size + 1) scope.names (cloFrom X.env.cells scope.names [])) s3.heap.objs.size X.env = ce at I4 pg pt pk pe ⊢
  have cL : ce.locals = s3.heap.objs.size := by subst hce; rfl
  generalize hH3 : upd H2 D (.dT []) = H3 at I3 I4 pg pt pk pe w0 nfp f3
  generalize hs4 : ({ s3 with heap := pushCells (s3.heap.push { cls := .type "dict", data := .dict #[] }) scope.names } : Shared) = s4 at I4 ⊢
  have st4 : tn 0 s4.heap := T.keep _ _ _ st3 fun b _ o e => by rw [← hs4]; exact pushCells_keeps _ _ _ _ (Heap.get?_push_of_some _ e)
  have stat : ∀ {σ' : L2.St} {H' : Hp} {s' : Shared}, Inv (X.blk s3 H3 scope ce fp) [] σ' H' s' → (∀ b ∈ fp, H' b = none) → ∀ b ∈ fp, FpOk (X.blk s3 H3 scope ce fp) [] H' b := fun {σ' H' s'} I' hn b hb =>
    ⟨hn b hb, (I'.ok.exf b hb).1, I'.ok.exfs b hb, .inl hb, fun x c e => (I'.ok.exf b hb).2 x c e, fun p hp => absurd (show p ∈ ([] : List (Addr × Obj)) ++ [] from hp) (by simp)⟩
  have loop : codeAny (model X.prog X.w) X.A (.compLoop (.DictComp kx vx [⟨tg, iter, ifs, 0⟩] scope pos) 0 (.ref it) (.ref D) ce) (compPost (model X.prog X.w) X.A X.xe use Qf (.ref D) s3.heap.objs.size) s4 := by
    refine compLoop_anyD (fun n s' => ∃ i H', Inv (X.blk s3 H3 scope ce fp) [] (wipe σ (own.map (·.2))) H' s' ∧ tn i s'.heap ∧ (∀ b ∈ fp, H' b = none) ∧ W i n H') ?_ m0 ⟨0, H3, I4, st4, nfp, w0⟩
    rintro n s5 ⟨i, H5, I5, st5, n5, w5⟩
    rcases turn i n H5 w5 with ⟨stop, qq⟩ | ⟨go, Nx, hNx, step⟩
    · have td := T.done (X.blk s3 H3 scope ce fp) rfl rfl rfl hc i [] s5 _ H5 (fun _ _ => False) I5 (stat I5 n5) st5 stop
      refine thnF td fun r s6 ⟨hr, I6⟩ => ?_
      subst hr
      -- back in the def's context
      have I7 : Inv X pins σ H5 s6 := I3.call' (ch := fp) I6.os I6.base I6.hok I6.bare fun b hb => ⟨(f3 b hb).1.2.2.2.1, (f3 b hb).1.2.1, (f3 b hb).1.2.2.2.2.1, (f3 b hb).1.2.2.2.2.2⟩
      have nC : H5 s3.heap.objs.size = none := by
        have z : H5 ce.locals = none := I6.free
        rw [cL] at z
        exact z
      obtain ⟨m, hn, _⟩ := I6.loc
      have hn : s6.heap.Ns ce.locals m := hn
      rw [cL] at hn
      exact hRR D s3.heap.objs.size s6 m H5 I7 qq hn (I3.fpOk (Nat.le_refl _) nC)
    · have ti := T.item (X.blk s3 H3 scope ce fp) rfl rfl rfl hc i [] s5 _ H5 (fun _ _ => False) I5 (stat I5 n5) st5 go
      refine thnF ti fun r s6 ⟨u, hr, h6⟩ => ?_
      subst hr
      refine thnF h6 fun _ s7 ⟨x, H7, I7, r7, y7, st7, n7⟩ => ?_
      have I7' := I7.pinned (stat I7 n7) (T.obj _ _ st7)
      refine thnF (pg.run _ s7 _ H7 x u _ I7' r7 (step x H7 y7)) fun _ s8 ⟨σ8, H8, I8, hw8, q8⟩ => ?_
      refine thnF (pt.run _ s8 σ8 H8 _ I8 q8) fun b s9 ⟨H9, I9, q9⟩ => ?_
      -- the turn's end
      have fin : ∀ {s' : Shared} {H' : Hp}, Inv (X.blk s3 H3 scope ce fp) ([] ++ pinsAt fp s7.heap) σ8 H' s' → Nx H' → ∃ m, m < n ∧ ∃ i H', Inv (X.blk s3 H3 scope ce fp) [] (wipe σ (own.map (·.2))) H' s' ∧ tn i s'.heap ∧ (∀ b ∈ fp, H' b = none) ∧ W i m H' := fun {s' H'} I' nx => by
        obtain ⟨m', hm, w'⟩ := hNx H' nx
        have pin' : ∀ b ∈ fp, ∀ o, s7.heap.get? b = some o → s'.heap.get? b = some o ∧ H' b = none := fun b hb o e =>
          let z := I'.pin (b, o) (List.mem_append_right _ (List.mem_append_right _ (mem_pinsAt hb e)))
          ⟨z.1, z.2.1⟩
        have hl : (wipe σ (own.map (·.2))).length = σ8.length := by rw [← hw8, wipe_length]
        refine ⟨m', hm, i + 1, H', (I'.unpinned (pins := [])).weak hl (fun j v e => ?_), T.keep _ _ _ st7 fun b hb o e => (pin' b hb o e).1, fun b hb => ?_, w'⟩
        · rw [← hw8] at e
          exact (wipe_some e).1
        · obtain ⟨o, e, _⟩ := T.obj _ _ st7 b hb
          exact (pin' b hb o e).2
      cases b with
      | false =>
        simp only [Bool.false_eq_true, if_false] at q9 ⊢
        exact fin I9 q9
      | true =>
        simp only [if_true] at q9 ⊢
        refine thnF (pk.run _ s9 σ8 H9 _ I9 q9) fun z s10 ⟨yk, H10, I10, r10, q10⟩ => ?_
        refine thnF (pe.run _ s10 σ8 H10 _ I10 q10) fun z2 s11 ⟨yv, H11, I11, r11, kvs, k, kb, ek, hkb, hD11, hz11, nx⟩ => ?_
        subst ek
        exact d_dictSetT (X := X.blk s3 H3 scope ce fp) hu I11 hD11 hkb hz11 r10 r11 fun s12 I12 => fin I12 nx
  exact codeAny_compStart_dict loop (T.self X.A 0 _ _ _ st4 loop)
/-- as a value -/
theorem pe_dcT {kx vx tg iter : Expr} {ifs : List Expr} {scope : Scope} {own : List (Str × Nat)} {pos : Pos} {wi : TI} {g : TG} {tt : TT} {tk tv : TE} (hu : X.A.units + 1 < cLine) (hc : X.calm = true) (hN : X.N.Nodup) (hi : PI X tg iter wi) (ok : BlkOk X.N X.env.scope scope own)
    (hg : ∀ (s : Shared) (H : Hp) (C : Addr) (cl : List (Str × Addr)) (fp : List Addr), PG (X.blk s H scope (compEnvC scope cl C X.env) fp) tg g) (ht : ∀ (s : Shared) (H : Hp) (C : Addr) (cl : List (Str × Addr)) (fp : List Addr), PTs (X.blk s H scope (compEnvC scope cl C X.env) fp) ifs tt)
    (hk : ∀ (s : Shared) (H : Hp) (C : Addr) (cl : List (Str × Addr)) (fp : List Addr), PE (X.blk s H scope (compEnvC scope cl C X.env) fp) kx tk)
    (he : ∀ (s : Shared) (H : Hp) (C : Addr) (cl : List (Str × Addr)) (fp : List Addr), PE (X.blk s H scope (compEnvC scope cl C X.env) fp) vx tv) (hs : ∀ x, foldedSetIterable iter X.env x = pure x := by intro _; rfl) :
    PE X (.DictComp kx vx [⟨tg, iter, ifs, 0⟩] scope pos) (tDcT wi g tt tk tv (own.map (·.2))) := by
  refine ⟨fun pins s σ H Q I h => ?_⟩
  rw [arm_eval_DictComp]
  refine dcT_core hu hc hN I hi ok hg ht hk he hs h fun D C s' m H' I' q hn f => ⟨m, hn, fun h'' sb => ?_⟩
  obtain ⟨f0, f1, f2, f3, f4, f5⟩ := f
  exact ⟨.ref D, H', I'.turned (t' := s'.toks) (fun b o hb e => (sb.2 b hb).trans e) f0 f1 f3 f4 f5, rfl, q⟩
/-- over any walk -/
theorem dc_it {J : It} {n : Nat} {G : Hp → Prop} {Y : Nat → Hp → V → Hp → Prop} (w : Walk J n G Y) {g : TG} {tt : TT} {tk tv : TE} {vs : List Nat} {σ : L2.St} {H1 : Hp} {D : Addr} {Qd : Hp → Prop} (Pv : Nat → Hp → Prop) (h0 : Pv 0 (upd H1 D (.dT []))) (hG : ∀ i H, i ≤ n → Pv i H → G H)
    (hs : ∀ i x H H', i < n → Pv i H → Y i H x H' → g x (wipe σ vs) H' fun σ2 H2 => wipe σ2 vs = wipe σ vs ∧ tt σ2 H2 fun b H3 =>
      if b = true then tk σ2 H3 fun y H4 => tv σ2 H4 fun z H5 => ∃ kvs k b, y = .ref b ∧ H5 b = some (.tup (k.map kV)) ∧ H5 D = some (.dT kvs) ∧ kvs.length < sizeLine ∧ Pv (i + 1) (upd H5 D (.dT (putK kvs k z))) else Pv (i + 1) H3) (hd : ∀ H, Pv n H → Qd H) :
    ∃ W : Nat → Nat → Hp → Prop, (∃ m, W 0 m (upd H1 D (.dT []))) ∧ ∀ i m H, W i m H →
      (J.stop i H ∧ Qd H) ∨ (J.go i H ∧ ∃ Nx : Hp → Prop, (∀ H', Nx H' → ∃ m', m' < m ∧ W (i + 1) m' H') ∧ ∀ x H', J.yld i H x H' → g x (wipe σ vs) H' fun σ2 H2 => wipe σ2 vs = wipe σ vs ∧ tt σ2 H2 fun b H3 =>
        if b = true then tk σ2 H3 fun y H4 => tv σ2 H4 fun z H5 => ∃ kvs k b, y = .ref b ∧ H5 b = some (.tup (k.map kV)) ∧ H5 D = some (.dT kvs) ∧ kvs.length < sizeLine ∧ Nx (upd H5 D (.dT (putK kvs k z))) else Nx H3) := by
  refine ⟨fun i m H => m = n - i ∧ i ≤ n ∧ Pv i H, ⟨n, by simp, Nat.zero_le _, h0⟩, ?_⟩
  rintro i m H ⟨rfl, hi, p⟩
  have q := hG i H hi p
  by_cases hlt : i < n
  · exact .inr ⟨w.goes i H hlt q, Pv (i + 1), fun H' p' => ⟨n - (i + 1), by omega, rfl, hlt, p'⟩, fun x H' y => hs i x H H' hlt p (w.yields i H x H' hlt q y)⟩
  · have e : i = n := by omega
    subst e
    exact .inl ⟨w.stops H q, hd H p⟩
end
end Ap
set_option Elab.async false
set_option linter.all false
set_option maxRecDepth 100000
set_option maxHeartbeats 2000000
/-! sorted(d), d a dict whose keys are pairs of ints; stores to attributes as targets; a dict displayed with one pair. -/
namespace Ap
open PySem PySem.Spec PyProof.Rows L2
def pairK : List Key → Int × Int
  | [Sum.inl i, Sum.inl j] => (i, j)
  | _ => (0, 0)
def rSortDT : List V → Hp → VK → Prop := fun vs H Q => ∃ (a : Addr) (kvs : List (List Key × V)) (B : Int), vs = [V.ref a] ∧ Rd H a (.dT kvs) ∧ kvs.length < 64 ∧ (∀ p ∈ kvs, ∃ i j : Int, p.1 = [Sum.inl i, Sum.inl j] ∧ TS.Bd B [i, j]) ∧
  ∀ (ts : List Addr) (qs : List (Int × Int)) (p : Addr), Paired (fun (t : Addr) (q : Int × Int) => H t = some (.tup [.int q.1, .int q.2])) ts qs → qs.Perm (kvs.map fun p => pairK p.1) → qs.Pairwise (fun x y => x.1 < y.1 ∨ (x.1 = y.1 ∧ x.2 ≤ y.2)) → H p = none → Q (.ref p) (upd H p (.lst (ts.map V.ref)))
theorem paired_map {α β γ : Type} {F : α → β → Prop} (f : γ → α) (g : γ → β) : ∀ (l : List γ), (∀ x ∈ l, F (f x) (g x)) → Paired F (l.map f) (l.map g)
  | [], _ => .nil
  | x :: l, h => .cons (h x (List.mem_cons_self ..)) (paired_map f g l fun y hy => h y (List.mem_cons_of_mem _ hy))
theorem paired_mem {α β : Type} {F : α → β → Prop} : ∀ {xs : List α} {ys : List β}, Paired F xs ys → ∀ {y : β}, y ∈ ys → ∃ x, x ∈ xs ∧ F x y
  | _, _, .cons h t, y, hy => by
    rcases List.mem_cons.mp hy with rfl | hy
    · exact ⟨_, List.mem_cons_self, h⟩
    · obtain ⟨x, h1, h2⟩ := paired_mem t hy
      exact ⟨x, List.mem_cons_of_mem _ h1, h2⟩
theorem paired_keys {H : Hp} : ∀ {kvs : List (List Key × V)} {ks : List (List Key × Addr × Value)}, KT H kvs ks → (kvs.map fun p => pairK p.1) = ks.map fun x => pairK x.1
  | _, _, .nil => rfl
  | _, _, .cons h t => by
    rw [List.map_cons, List.map_cons, paired_keys t, h.1]
section
variable {X : Cx}
theorem cr_sortDT (hc : X.calm = true) : CallR X (.builtin "sorted") rSortDT := by
  intro pins s σ H vs us Q I r h
  obtain ⟨d, kvs, B, rfl, hd, h64, hB, q⟩ := h
  rw [Vals.ref1 r]
  obtain ⟨z, hs, ks, pr, o, es, ep, ho, hx, hdt, he, hn⟩ := (show ObjOk X.prog X.w H s.heap d (.dT kvs) from hd.ok I.hok)
  have l1 : es.size = ks.length := size_of_entries he
  have l2 : kvs.length = ks.length := Paired.length pr
  refine Calls.call_function_entry kind_sorted plain_sorted entry_sorted (args_sorted1 _) ?_
  unfold Builtin.«sorted»
  refine wpAny_bind (m := checkCount "sorted" 1 1 _) (wpAny_pure ?_)
  refine wpAny_bind (PySem.W.kdu_collect (A := X.A.in1) (kdl_raw hs hx hdt) (I.ok.hd hc) ho (by omega) fun h' tk acc hk it => ?_)
  have ea : acc.toList = ks.map fun x => Value.ref x.2.1 := by
    have hl : acc.toList.length = ks.length := by rw [Array.length_toList, it.1]; exact l1
    apply List.ext_getElem?
    intro j
    rw [List.getElem?_map]
    cases hj : acc.toList[j]? with
    | none =>
      have h1 := List.getElem?_eq_none_iff.mp hj
      rw [List.getElem?_eq_none (by omega)]
      all_goals rfl
    | some v =>
      obtain ⟨en, hen, hv⟩ := it.2 j v (by rw [← Array.getElem?_toList]; exact hj)
      have qe := entry_at he j
      rw [hen] at qe
      cases hb : ks[j]? with
      | none =>
        rw [hb] at qe
        exact nomatch (show some en = none from qe)
      | some b =>
        rw [hb] at qe
        have e2 : en = entryOfKey (tupleKind (mixKind X.prog X.w)) b := Option.some.inj qe
        rw [hv, e2]
        all_goals rfl
  have I1 : Inv X pins σ H { s with heap := h', toks := tk } := I.kept hk
  have hl64 : acc.toList.length < 64 := by rw [ea, List.length_map]; omega
  refine wpAny_bind (wpAny_newList ?_ (by rw [sizeLine_eq]; omega))
  have hoL : (h'.push (seqObj "list" acc.toList.toArray 0)).get? h'.objs.size = some (seqObj "list" acc.toList.toArray 0) := Heap.get?_push_size _ rfl
  show wpAny _ _ _ _ _ { s with heap := h'.push (seqObj "list" acc.toList.toArray 0), toks := tk }
  -- what each value is
  have ti : ∀ x ∈ ks, ∃ i j : Int, pairK x.1 = (i, j) ∧ TS.Bd B [i, j] ∧ H x.2.1 = some (.tup [.int i, .int j]) ∧ TS.TupInts (h'.push (seqObj "list" acc.toList.toArray 0)) (.ref x.2.1) [i, j] := fun x hx => by
    obtain ⟨p, hp, e1, e2, _⟩ := paired_mem pr hx
    obtain ⟨i, j, e3, e4⟩ := hB p hp
    rw [e3] at e1 e2
    have e2' : H x.2.1 = some (.tup [.int i, .int j]) := e2
    refine ⟨i, j, by rw [← e1] <;> rfl, e4, e2', ?_⟩
    obtain ⟨its, rv, hT, _⟩ := I1.tuple (SqT.of e2' : SqT X.K H x.2.1 ([i, j].map V.int))
    obtain ⟨ot, hot, r'⟩ := hT
    exact ⟨x.2.1, its.toArray, rfl, ⟨ot, Heap.get?_push_of_some _ hot, r'⟩, by simpa using rv.ints⟩
  have ok : TS.TupsOk (h'.push (seqObj "list" acc.toList.toArray 0)) 2 B acc.toList := fun v hv => by
    rw [ea] at hv
    obtain ⟨x, hx, e⟩ := List.mem_map.mp hv
    obtain ⟨i, j, _, h2, _, h4⟩ := ti x hx
    rw [← e]
    exact ⟨[i, j], h4, rfl, h2⟩
  refine wpAny_bind (wpAny_holding (TS.call_sort_tups (s := { s with heap := h'.push (seqObj "list" acc.toList.toArray 0), toks := tk }) hoL hl64 (by decide) ok fun out a1 a2 => ?_))
  obtain ⟨c, hcc⟩ := PyProof.Rows.sortedHeap_at (vs := acc.toList) (out := out) hoL
  obtain ⟨L, pL, eL⟩ := perm_lift (fun x : Addr × Int × Int => Value.ref x.1) a1 (ks.map fun x => (x.2.1, pairK x.1)) (by rw [List.map_map, ea]; rfl)
  have mem : ∀ x ∈ L, ∃ i j : Int, x.2 = (i, j) ∧ TS.Bd B [i, j] ∧ H x.1 = some (.tup [.int i, .int j]) ∧ TS.TupInts (h'.push (seqObj "list" acc.toList.toArray 0)) (.ref x.1) [i, j] := fun x hx => by
    obtain ⟨y, hy, e⟩ := List.mem_map.mp (pL.mem_iff.mp hx)
    obtain ⟨i, j, h1, h2, h3, h4⟩ := ti y hy
    rw [← e]
    exact ⟨i, j, h1, h2, h3, h4⟩
  have pw : (L.map (·.2)).Pairwise (fun x y : Int × Int => x.1 < y.1 ∨ (x.1 = y.1 ∧ x.2 ≤ y.2)) := by
    rw [← eL] at a2
    refine List.pairwise_map.mpr (List.Pairwise.imp_of_mem (fun {x y} hx hy hle => ?_) (List.pairwise_map.mp a2))
    obtain ⟨i, j, e1, b1, _, t1⟩ := mem x hx
    obtain ⟨i', j', e1', b1', _, t1'⟩ := mem y hy
    rw [t1.ints, t1'.ints] at hle
    rw [e1, e1']
    exact code_lex b1 b1' hle
  have hlen : ((L.map (·.1)).map V.ref).length ≤ sizeLine := by
    rw [List.length_map, List.length_map, pL.length_eq, List.length_map]
    omega
  have eo : out.toList = (L.map (·.1)).map Value.ref := by rw [List.map_map]; exact eL.symm
  refine wpAny_pure ⟨_, rfl, .ref h'.objs.size, upd H h'.objs.size (.lst ((L.map (·.1)).map V.ref)), I1.laid (t' := tk) (fun b u e => ?_) (Nat.le_refl _)
    (show ObjOk X.prog X.w _ _ _ (.lst ((L.map (·.1)).map V.ref)) from ⟨hlen, out.toList, c, by rw [eo]; exact vals_refs _, by rw [Array.toArray_toList]; exact hcc⟩), rfl, q (L.map (·.1)) (L.map (·.2)) _ ?_ ?_ pw (I1.hok.fresh (Nat.le_refl _))⟩
  · have hb : b < h'.objs.size := Heap.lt_size e
    show (sortedHeap (h'.push (seqObj "list" acc.toList.toArray 0)) h'.objs.size acc.toList out).get? b = some u
    rw [PyProof.Rows.sortedHeap_old (Nat.ne_of_lt hb) (by rw [size_push']; exact Nat.lt_succ_of_lt hb)]
    exact Heap.get?_push_of_some _ e
  · refine paired_map (fun x : Addr × Int × Int => x.1) (fun x => x.2) L fun x hx => ?_
    obtain ⟨i, j, e1, _, e2, _⟩ := mem x hx
    rw [e1]
    exact e2
  · rw [paired_keys pr]
    have := pL.map (fun x : Addr × Int × Int => x.2)
    rw [List.map_map] at this
    exact this
end
end Ap
set_option Elab.async false
set_option linter.all false
set_option maxRecDepth 100000
set_option maxHeartbeats 2000000
namespace Ap
open PySem PySem.Spec PyProof.Rows L2
section
variable {X : Cx}
/-- o.f as a target -/
def gFld (K : PySem.W.Frag) (to : TE) (f : Str) : TG := fun v σ H Q => to σ H fun x H1 => ∃ a C dx fs, x = .ref a ∧ H1 a = some (.ins C dx fs) ∧ Cls K C ∧ NoAttr K C f ∧ fs.length < 1000 ∧ Q σ (upd H1 a (.ins C dx (putF f v fs)))
theorem pg_fld {o : Expr} {to : TE} {f : Str} {pos : Pos} (ho : PE X o to) : PG X (.Attribute o f pos) (gFld X.K to f) := by
  refine ⟨fun pins s σ H v u Q I r h => ?_⟩
  refine PySem.W.kas_attr (thn (ho.run pins s σ H _ I h) fun ov s1 ⟨x, H1, I1, rx, a, C, dx, fs, ex, ea, c, n, l, q⟩ => ?_)
  subst ex
  obtain rfl : ov = Value.ref a := rx
  exact setattr_ok I1 ea c n l r fun s2 I2 => ⟨σ, _, I2, q⟩
/-- {k: v}, k a tuple of ints and texts -/
def tDispT (tk tv : TE) : TE := fun σ H Q => ∀ p, H p = none → tk σ (upd H p (.dT [])) fun y H2 => tv σ H2 fun z H3 => ∃ (b : Addr) (k : List Key), y = .ref b ∧ H3 b = some (.tup (k.map kV)) ∧ H3 p = some (.dT []) ∧ Q (.ref p) (upd H3 p (.dT [(k, z)]))
theorem pe_dispT {k v : Expr} {tk tv : TE} {pos : Pos} (hu : X.A.units + 1 < cLine) (hk : PE X k tk) (hv : PE X v tv)
    (hshape : (evalEachOpt [some k] X.env).zip ((evalEach [v] X.env).map fun v => do let x ← v; standAt pos; pure x) = [(eval k X.env, do let x ← eval v X.env; standAt pos; pure x)].map (fun p => (some p.1, p.2)) := by rfl) : PE X (.Dict [some k] [v] pos) (tDispT tk tv) := by
  refine ⟨fun pins s σ H Q I q => ?_⟩
  have hn := I.hok.fresh (Nat.le_refl s.heap.objs.size)
  have I1 := I.laid (a := s.heap.objs.size) (o := .dT []) (h' := s.heap.push { cls := .type "dict", data := .dict #[] }) (t' := s.toks) (fun _ _ q => Heap.get?_push_of_some _ q) (Nat.le_refl _) (dt_empty s.heap I.big)
  rw [arm_eval_Dict, hshape, dictDisplay_pairs _ (List.cons_ne_nil _ _) (by show 1 < 17; decide)]
  refine wpAny_bind (wpAny_standAt (wpAny_bind (wpAny_subDictH (knd := tupleKind (mixKind X.prog X.w)) (Q := fun d s' => wpAny (model X.prog X.w) X.A (pure (Value.ref d)) (EP X pins σ Q) X.xe s') (show X.A.units < cLine by omega) (by show 1 ≤ 15; decide) ?_)))
  refine evalPairs_cons (thn (hk.run pins _ σ _ _ I1 (q _ hn)) fun kv s2 ⟨y, H2, I2, ry, q2⟩ => wpAny_bind (thn (hv.run pins s2 σ H2 _ I2 q2) fun vv s3 ⟨z, H3, I3, rz, b, ks, ey, hb, hd, q3⟩ => wpAny_bind (wpAny_standAt (wpAny_pure (evalPairs_nil ?_)))))
  subst ey
  obtain rfl : kv = Value.ref b := ry
  obtain ⟨zz, hs0, xs, rel, dd⟩ := dt_of I3.hok hd
  cases rel
  refine ⟨[(ks, b, vv)], ⟨rfl, rfl, key_of I3.hok hb, trivial⟩, dd, fun h' tk dd' hs => wpAny_pure ?_⟩
  obtain ⟨o, es, ep, hq, h2, h3, h4, _, h5⟩ := dd'
  refine ⟨.ref _, _, d_write (ob := .dT [(ks, z)]) (t' := tk) I3 (by rw [hd]; exact True.intro) hs ⟨o, hq⟩ ⟨by show 1 ≤ sizeLine; decide, hs0, [(ks, b, vv)], .cons ⟨rfl, ?_, rz⟩ .nil, o, es, ep, hq, h2, h3, h4, h5⟩, rfl, q3⟩
  rw [upd_ne (ne_of hb hd (fun z => nomatch z))]
  exact hb
end
end Ap
set_option Elab.async false
set_option linter.all false
set_option maxRecDepth 100000
set_option maxHeartbeats 2000000
/-! name = {tuple: value for ..} on one line, the name a local. -/
namespace Ap
open PySem PySem.Spec PyProof.Rows L2
section
variable {X : Cx}
theorem ps_setDcT {i : Nat} {y : Str} {py : Pos} {kx vx tg iter : Expr} {ifs : List Expr} {scope : Scope} {own : List (Str × Nat)} {pos spos : Pos} {wi : TI} {g : TG} {tt : TT} {tk tv : TE} (hu : X.A.units + 1 < cLine) (hc : X.calm = true) (hN : X.N.Nodup) (hy : X.N[i]? = some y) (hyl : X.env.scope.names.lookup y = some .local)
    (hsw : swapsWith (.DictComp kx vx [⟨tg, iter, ifs, 0⟩] scope pos) (some (.Name y py)) spos.line X.env = pure true) (hi : PI X tg iter wi) (ok : BlkOk X.N X.env.scope scope own)
    (hg : ∀ (s : Shared) (H : Hp) (C : Addr) (cl : List (Str × Addr)) (fp : List Addr), PG (X.blk s H scope (compEnvC scope cl C X.env) fp) tg g) (ht : ∀ (s : Shared) (H : Hp) (C : Addr) (cl : List (Str × Addr)) (fp : List Addr), PTs (X.blk s H scope (compEnvC scope cl C X.env) fp) ifs tt)
    (hk : ∀ (s : Shared) (H : Hp) (C : Addr) (cl : List (Str × Addr)) (fp : List Addr), PE (X.blk s H scope (compEnvC scope cl C X.env) fp) kx tk)
    (he : ∀ (s : Shared) (H : Hp) (C : Addr) (cl : List (Str × Addr)) (fp : List Addr), PE (X.blk s H scope (compEnvC scope cl C X.env) fp) vx tv) (hs : ∀ x, foldedSetIterable iter X.env x = pure x := by intro _; rfl) :
    PS X (.Assign [.Name y py] (.DictComp kx vx [⟨tg, iter, ifs, 0⟩] scope pos) spos) (tAsg (tDcT wi g tt tk tv (own.map (·.2))) (gName i)) := by
  refine ⟨fun pins s σ H D I h => ?_⟩
  rw [exec_Assign_Name_used _ _ _ _ hsw]
  refine wpAny_bind (wpAny_standAt (wpAny_bind ?_))
  show wpAny _ X.A (do let _ ← comprehension (.DictComp kx vx [⟨tg, iter, ifs, 0⟩] scope pos) scope X.env (firstIterPos [⟨tg, iter, ifs, 0⟩] pos) newDict false (eval iter X.env) (some (assign (.Name y py) X.env))) _ _ s
  have h : tDcT wi g tt tk tv (own.map (·.2)) σ H (fun x H1 => gName i x σ H1 D.nx) := h
  refine wpAny_bind (thn (dcT_core (Qf := fun _ s' => SP X pins D .next s') hu hc hN I hi ok hg ht hk he hs h fun L C s' m H' I' q hn f => ?_) fun _ s' hq => wpAny_pure (wpAny_pure hq))
  show wpAny _ _ (assign (.Name y py) X.env (.ref L)) _ _ _
  refine wpAny_assign_Name (store_ok2 (v := V.ref L) I' hN hy (.inl hyl) rfl (fun s2 I2 ⟨a, sb, ha⟩ => ?_) (.inr hyl))
  obtain ⟨f0, f1, f2, f3, f4, f5⟩ := f
  have haC : C ≠ a := by
    rcases ha with z | z
    · rw [z]; exact f1
    · exact fun e => f4 y a z e.symm
  refine ⟨m, hn.sameBut sb haC, fun h3 sb3 => ?_⟩
  exact ⟨_, H', I2.turned (t' := s2.toks) (fun b o hb e => (sb3.2 b hb).trans e) f0 f1 f3 f4 f5, q⟩
theorem sw_trueD {kx vx : Expr} {gs : List Comprehension} {scope : Scope} {pos py : Pos} {y : Str} {l : Nat} {env : Env} (hk : env.scope.kind = .function) (hy : env.scope.names.lookup y = some .local) (hl : (py.line == pos.line) = true)
    (ha : (scope.names.any fun (n, k) => n == y && (k == .local || k == .cell)) = false) : swapsWith (.DictComp kx vx gs scope pos) (some (.Name y py)) l env = pure true := by
  have ky : env.kindOf y = some .local := hy
  have hb : env.blockKind = .function := by unfold Env.blockKind; rw [hk]; rfl
  unfold swapsWith
  simp only [hb, ky, ha, Expr.pos, hl]
  rfl
end
end Ap
set_option Elab.async false
set_option linter.all false
set_option maxRecDepth 100000
set_option maxHeartbeats 2000000
/-! A walk over what is a list or a tuple. -/
namespace Ap
open PySem PySem.Spec PyProof.Rows L2
/-- a list (true) or a tuple (false) -/
def qO (l : Bool) (xs : List V) : HO := match l with
  | true => .lst xs
  | false => .tup xs
def Sq (K : PySem.W.Frag) (l : Bool) (H : Hp) (a : Addr) (xs : List V) : Prop := match l with
  | true => SqL K H a xs
  | false => SqT K H a xs
def ItS (K : PySem.W.Frag) (l : Bool) (a : Addr) : It := match l with
  | true => Itl K a
  | false => Itt K a
theorem Sq.of {K : PySem.W.Frag} {l : Bool} {H : Hp} {a : Addr} {xs : List V} (h : H a = some (qO l xs)) : Sq K l H a xs := by
  cases l with
  | true => exact SqL.of h
  | false => exact SqT.of h
theorem Sq.or {K : PySem.W.Frag} {l : Bool} {H : Hp} {a : Addr} {xs : List V} (h : Sq K l H a xs) : SqL K H a xs ∨ SqT K H a xs := by
  cases l with
  | true => exact .inl h
  | false => exact .inr h
theorem walk_seq {K : PySem.W.Frag} {l : Bool} {a : Addr} {xs : List V} : Walk (ItS K l a) xs.length (fun H => Sq K l H a xs) (YAt xs) := by
  cases l with
  | true => exact walk_list
  | false => exact walk_tup
def iSeqA (K : PySem.W.Frag) (tl : TE) : TI := fun σ H R => tl σ H fun x H1 => ∃ a xs l, x = .ref a ∧ Sq K l H1 a xs ∧ R (ItS K l a) H1
theorem pi_seqA {X : Cx} {tg l : Expr} {tl : TE} (hl : PE X l tl) : PI X tg l (iSeqA X.K tl) := by
  refine ⟨fun pins s σ H R I h => ?_⟩
  refine thn (hl.run pins s σ H _ I h) fun v s1 ⟨x, H1, I1, r1, q1⟩ => ?_
  obtain ⟨a, xs, b, e, hq, q⟩ := q1
  subst e
  cases r1
  cases b with
  | true =>
    obtain ⟨its, rv, p, hz⟩ := I1.list (show SqL X.K H1 a xs from hq)
    refine wpAny_pyIter_list p.isList ?_
    refine ⟨s1.heap.objs.size, [s1.heap.objs.size], _, _, H1, rfl, I1.kept (t' := s1.toks) fun b o e => Heap.get?_push_of_some _ e, turn_list a _, ⟨_, Heap.get?_push_size _ rfl, rfl, rfl⟩, fun b hb => ?_, q⟩
    have e : b = s1.heap.objs.size := by simpa using hb
    subst e
    exact I1.fpOk (Nat.le_refl _) (I1.hok.fresh (Nat.le_refl _))
  | false =>
    obtain ⟨its, rv, p, hz⟩ := I1.tuple (show SqT X.K H1 a xs from hq)
    refine wpAny_pyIter_tuple (show s1.heap.IsTuple a its.toArray from p) ?_
    refine ⟨s1.heap.objs.size, [s1.heap.objs.size], _, _, H1, rfl, I1.kept (t' := s1.toks) fun b o e => Heap.get?_push_of_some _ e, turn_tuple a _, ⟨_, Heap.get?_push_size _ rfl, rfl, rfl⟩, fun b hb => ?_, q⟩
    have e : b = s1.heap.objs.size := by simpa using hb
    subst e
    exact I1.fpOk (Nat.le_refl _) (I1.hok.fresh (Nat.le_refl _))
def ItES (K : PySem.W.Frag) (l : Bool) (a : Addr) : It := match l with
  | true => Ite K a
  | false => IteT K a
theorem walk_enumS {K : PySem.W.Frag} {l : Bool} {a : Addr} {xs : List V} : Walk (ItES K l a) xs.length (fun H => Sq K l H a xs) (YPair (fun i => some (.int (i : Nat))) (fun i => xs[i]?)) := by
  cases l with
  | true => exact walk_enum
  | false => exact walk_enumT
def iEnumS (K : PySem.W.Frag) (ta : TA) : TI := fun σ H R => ta σ H fun vs H1 => ∃ a xs l, vs = [.ref a] ∧ Sq K l H1 a xs ∧ R (ItES K l a) H1
theorem pi_enumS {X : Cx} {e : Expr} {ta : TA} {p pos tpos : Pos} {elts : List Expr} {kk : Nat} (hg : Gl X "enumerate") (hm : X.mg "enumerate" = none) (ha : PA X [e] ta) (hs : starEach [e] X.env = [(false, eval e X.env)] := by rfl) :
    PI X (.Tuple elts kk tpos) (.Call (.Name "enumerate" p) [e] [] pos) (iEnumS X.K ta) := by
  refine ⟨fun pins s σ H R I h => ?_⟩
  refine Call_ (ld_blt I hg hm boot_enumerate (PyProof.Rows.callWith_type1 (thn (ha.run pos pins s σ H _ I h) fun us s1 ⟨vs, H1, I1, r1, q1⟩ => ?_) hs rfl))
  obtain ⟨a, xs, l, ex, hq, q⟩ := q1
  subst ex
  cases r1 with
  | cons r rr =>
    cases rr
    cases r
    have fresh2 : ∀ b, b ∈ [s1.heap.objs.size + 1, s1.heap.objs.size] → FpOk X pins H1 b := fun b hb => by
      have e' : b = s1.heap.objs.size + 1 ∨ b = s1.heap.objs.size := by simpa using hb
      have hle : s1.heap.objs.size ≤ b := by
        rcases e' with z | z
        · rw [z]; exact Nat.le_add_right _ _
        · rw [z]; exact Nat.le_refl _
      exact I1.fpOk hle (I1.hok.fresh hle)
    cases l
    case true =>
      obtain ⟨its, rv, p', hz⟩ := I1.list (show SqL X.K H1 a xs from hq)
      refine call_enumerate_list p'.isList fun h' he hit hsz hk => wpAny_pyIter_enum he ?_
      have I2 : Inv X pins σ H1 { s1 with heap := h' } := I1.kept (t' := s1.toks) hk
      exact ⟨s1.heap.objs.size + 1, [s1.heap.objs.size + 1, s1.heap.objs.size], _, _, H1, rfl, I2, turn_enum a (s1.heap.objs.size + 1) s1.heap.objs.size, ⟨⟨.none, he⟩, hit, Nat.succ_ne_self _⟩, fresh2, q⟩
    case false =>
      obtain ⟨its, rv, p', hz⟩ := I1.tuple (show SqT X.K H1 a xs from hq)
      obtain ⟨o1, ho1, _⟩ := id p'
      have hal : a < s1.heap.objs.size := Heap.lt_size ho1
      refine EX.call_enumerate_tuple (show s1.heap.IsTuple a its.toArray from p') fun h' he hit hsz hk => wpAny_pyIter_enum he ?_
      have I2 : Inv X pins σ H1 { s1 with heap := h' } := I1.kept (t' := s1.toks) hk
      exact ⟨s1.heap.objs.size + 1, [s1.heap.objs.size + 1, s1.heap.objs.size], _, _, H1, rfl, I2, turn_enumT a (s1.heap.objs.size + 1) s1.heap.objs.size, ⟨⟨.none, he⟩, hit, Nat.succ_ne_self _, Nat.ne_of_gt (Nat.lt_succ_of_lt hal), Nat.ne_of_lt hal⟩, fresh2, q⟩
/-- a type that is neither a list nor a tuple -/
theorem kit_none {K : PySem.W.Frag} {t : Value} (h1 : PySem.W.kitOne K t (.type "list") = some false) (h2 : PySem.W.kitOne K t (.type "tuple") = some false) : PySem.W.kitAny K t [.type "list", .type "tuple"] = some false :=
  kitAny_cons h1 (fun _ => kitAny_cons h2 (fun _ => kitAny_nil) (fun z => nomatch z)) (fun z => nomatch z)
theorem kit_seq {K : PySem.W.Frag} (l : Bool) : PySem.W.kitAny K (.type (if l = true then "list" else "tuple")) [.type "list", .type "tuple"] = some true := by
  cases l with
  | true => exact kitAny_cons (b := true) (kit_ty (by decide +kernel)) (fun z => nomatch z) (fun _ => rfl)
  | false => exact kitAny_cons (b := false) (kit_ty (by decide +kernel)) (fun _ => kitAny_cons (b := true) (kit_ty (by decide +kernel)) (fun z => nomatch z) (fun _ => rfl)) (fun z => nomatch z)
theorem ty_seq {K : PySem.W.Frag} {l : Bool} {H : Hp} {a : Addr} {xs : List V} (h : H a = some (qO l xs)) : TyX K H (.ref a) (.type (if l = true then "list" else "tuple")) := by
  cases l with
  | true => exact .base (.lst h)
  | false => exact .base (.tup h)
end Ap
set_option Elab.async false
set_option maxRecDepth 100000
/-! Nodes, their keys by rounds, papers: plain functions. -/
namespace Ap
open PySem
inductive Nd where
  | sc (t x : Str)
  | sq (t : Str) (xs : List Nat)
  | mp (t : Str) (es : List (Nat × Nat))
def Nd.kind : Nd → Str
  | .sc .. => "scalar"
  | .sq .. => "sequence"
  | .mp .. => "mapping"
def Nd.tag : Nd → Str
  | .sc t _ => t
  | .sq t _ => t
  | .mp t _ => t
/-- the numbers in a node lie below n -/
def Nd.below (n : Nat) : Nd → Prop
  | .sc _ _ => True
  | .sq _ xs => ∀ x ∈ xs, x < n
  | .mp _ es => ∀ e ∈ es, e.1 < n ∧ e.2 < n
/-- how long its content is -/
def Nd.len : Nd → Nat
  | .sc _ _ => 0
  | .sq _ xs => xs.length
  | .mp _ es => es.length
def Nd.shift (b : Nat) : Nd → Nd
  | .sc t x => .sc t x
  | .sq t xs => .sq t (xs.map (· + b))
  | .mp t es => .mp t (es.map fun e => (e.1 + b, e.2 + b))
def kn (n : Nat) : NestedKey := .num (n : Int)
def firstKey : Nd → NestedKey
  | .sc t x => .tup [.text "scalar", .text t, .text x]
  | .sq t xs => .tup [.text "sequence", .text t, kn xs.length]
  | .mp t _ => .tup [.text "mapping", .text t, .none]
def ple (x y : Nat × Nat) : Bool := decide (x.1 < y.1) || (decide (x.1 = y.1) && decide (x.2 ≤ y.2))
/-- the different pairs, in order -/
def sortP (ps : List (Nat × Nat)) : List (Nat × Nat) := (dd ps).mergeSort ple
def at_ (c : List Nat) (i : Nat) : Nat := c.getD i 0
def nextKey (own : Nat) (c : List Nat) : Nd → NestedKey
  | .sc _ _ => .tup [kn own, .tup []]
  | .sq _ xs => .tup [kn own, .tup (xs.map fun x => kn (at_ c x))]
  | .mp _ es => .tup [kn own, .tup ((sortP (es.map fun e => (at_ c e.1, at_ c e.2))).map fun p => .tup [kn p.1, kn p.2])]
def cls0 (ns : List Nd) : List Nat := numd (ns.map firstKey)
def clsN (ns : List Nd) (c : List Nat) : List Nat := numd ((ns.zip c).map fun p => nextKey p.2 c p.1)
/-- the classes of the i-th round -/
def clsAt (ns : List Nd) (i : Nat) : List Nat := iter (clsN ns) i (cls0 ns)
/-- r is the first round that the next one doesn't change -/
def Stop (ns : List Nd) (r : Nat) : Prop := clsN ns (clsAt ns r) = clsAt ns r ∧ ∀ i, i < r → clsN ns (clsAt ns i) ≠ clsAt ns i
/-- both graphs in one row -/
def joinN (ns ms : List Nd) : List Nd := ns ++ ms.map (Nd.shift ns.length)
/-- what two equal nodes need -/
def eqGoals (c : List Nat) (b : Nat) : Nd → Nd → List (Nat × Nat)
  | .sq _ xs, .sq _ ys => xs.zip ys
  | .mp _ es, .mp _ fs => es.flatMap fun e => fs.flatMap fun f => if at_ c e.1 = at_ c (f.1 + b) ∧ at_ c e.2 = at_ c (f.2 + b) then [(e.1, f.1), (e.2, f.2)] else []
  | _, _ => []
def ndAt (ns : List Nd) (i : Nat) : Nd := ns.getD i (.sc "" "")
/-- one turn of the search for a paper: what was found, what waits (the last one is next) -/
def turnP (c : List Nat) (ns ms : List Nd) (s : List (Nat × Nat) × List (Nat × Nat)) : List (Nat × Nat) × List (Nat × Nat) :=
  match s.2.getLast? with
  | none => s
  | some p => if p ∈ s.1 then (s.1, s.2.dropLast) else (s.1 ++ [p], s.2.dropLast ++ eqGoals c ns.length (ndAt ns p.1) (ndAt ms p.2))
def seekP (c : List Nat) (ns ms : List Nd) (top it : Nat) (k : Nat) : List (Nat × Nat) × List (Nat × Nat) := iter (turnP c ns ms) k ([], [(top, it)])
def fitE (known : List (Nat × Nat)) (e f : Nat × Nat) : Bool := decide ((e.1, f.1) ∈ known) && decide ((e.2, f.2) ∈ known)
/-- whether a pair of nodes stands -/
def standsP (known : List (Nat × Nat)) (n m : Nd) : Bool := decide (firstKey n = firstKey m) && match n, m with
  | .sq _ xs, .sq _ ys => (xs.zip ys).all fun p => decide (p ∈ known)
  | .mp _ es, .mp _ fs => (es.all fun e => fs.any fun f => fitE known e f) && fs.all fun f => es.any fun e => fitE known e f
  | _, _ => true
/-- a paper's elements, each a pair of numbers or something else -/
abbrev Ppr : Type := List (Option (Nat × Nat))
def judgeGo (ns ms : List Nd) (known : List (Nat × Nat)) : Nat → List (Nat × Nat) → Ppr → Option Nat
  | _, _, [] => none
  | i, _, none :: _ => some i
  | i, seen, some p :: r => if p ∈ seen then some i else if standsP known (ndAt ns p.1) (ndAt ms p.2) = true then judgeGo ns ms known (i + 1) (seen ++ [p]) r else some i
def knownOf (p : Ppr) : List (Nat × Nat) := p.filterMap id
def judge (ns ms : List Nd) (top it : Nat) (p : Ppr) : Option Nat :=
  match judgeGo ns ms (knownOf p) 0 [] p with
  | some i => some i
  | none => if (top, it) ∈ knownOf p then none else some p.length
end Ap
set_option Elab.async false
set_option maxRecDepth 100000
/-! Pairs as keys of a dict; pairs in order. -/
namespace Ap
open PySem PySem.Spec L2
def keyOf (p : Nat × Nat) : List Key := [Sum.inl (p.1 : Int), Sum.inl (p.2 : Int)]
theorem keyOf_inj {p q : Nat × Nat} (h : keyOf p = keyOf q) : p = q := by
  obtain ⟨a, b⟩ := p
  obtain ⟨c, d⟩ := q
  unfold keyOf at h
  simp at h
  obtain ⟨h1, h2⟩ := h
  have : a = c := by omega
  have : b = d := by omega
  subst_vars
  rfl
theorem keyOf_kV (p : Nat × Nat) : (keyOf p).map kV = [.int (p.1 : Int), .int (p.2 : Int)] := rfl
theorem putK_keys {κ : Type} [DecidableEq κ] (kvs : List (κ × V)) (k : κ) (v : V) : (putK kvs k v).map (·.1) = ddS (kvs.map (·.1)) k := by
  unfold putK ddS
  by_cases h : k ∈ kvs.map (·.1)
  · rw [if_pos h, if_pos]
    · rw [List.map_map]
      refine List.map_congr_left fun x hx => ?_
      show (if x.1 = k then (x.1, v) else x).1 = x.1
      split <;> rfl
    · obtain ⟨x, hx, e⟩ := List.mem_map.mp h
      exact List.any_eq_true.mpr ⟨x, hx, decide_eq_true e⟩
  · rw [if_neg h, if_neg]
    · rw [List.map_append]
      rfl
    · intro z
      obtain ⟨x, hx, e⟩ := List.any_eq_true.mp z
      exact h (List.mem_map.mpr ⟨x, hx, of_decide_eq_true e⟩)
theorem ddS_map {ps : List (Nat × Nat)} {p : Nat × Nat} : ddS (ps.map keyOf) (keyOf p) = (ddS ps p).map keyOf := by
  unfold ddS
  by_cases h : p ∈ ps
  · rw [if_pos h, if_pos (List.mem_map.mpr ⟨p, h, rfl⟩)]
  · rw [if_neg h, if_neg, List.map_append]
    · rfl
    · intro z
      obtain ⟨q, hq, e⟩ := List.mem_map.mp z
      exact h (keyOf_inj e ▸ hq)
theorem valV_keys {κ : Type} [DecidableEq κ] {kvs : List (κ × V)} {k : κ} : (valV kvs k).isSome = decide (k ∈ kvs.map (·.1)) := by
  rw [← valV_any]
  by_cases h : k ∈ kvs.map (·.1)
  · rw [decide_eq_true h]
    obtain ⟨x, hx, e⟩ := List.mem_map.mp h
    exact List.any_eq_true.mpr ⟨x, hx, decide_eq_true e⟩
  · rw [decide_eq_false h]
    refine Bool.eq_false_iff.mpr fun z => ?_
    obtain ⟨x, hx, e⟩ := List.any_eq_true.mp z
    exact h (List.mem_map.mpr ⟨x, hx, of_decide_eq_true e⟩)
def castP (p : Nat × Nat) : Int × Int := ((p.1 : Int), (p.2 : Int))
theorem pairK_keyOf (p : Nat × Nat) : pairK (keyOf p) = castP p := rfl
theorem ple_total (x y : Nat × Nat) : (ple x y || ple y x) = true := by
  unfold ple
  by_cases h1 : x.1 < y.1
  · simp [h1]
  · by_cases h2 : y.1 < x.1
    · simp [h2]
    · have : x.1 = y.1 := by omega
      simp [this]
      omega
theorem ple_trans (x y z : Nat × Nat) (h1 : ple x y = true) (h2 : ple y z = true) : ple x z = true := by
  unfold ple at *
  simp at *
  omega
/-- the one list of the different pairs in order -/
theorem sort_uniq {qs : List (Int × Int)} {ps : List (Nat × Nat)} (hp : qs.Perm ((dd ps).map castP)) (hs : qs.Pairwise fun x y => x.1 < y.1 ∨ (x.1 = y.1 ∧ x.2 ≤ y.2)) : qs = (sortP ps).map castP := by
  refine List.Perm.eq_of_pairwise (le := fun x y => x.1 < y.1 ∨ (x.1 = y.1 ∧ x.2 ≤ y.2)) ?_ hs ?_ ?_
  · rintro ⟨a, b⟩ ⟨c, d⟩ _ _ h1 h2
    simp at h1 h2
    have : a = c := by omega
    have : b = d := by omega
    subst_vars
    rfl
  · unfold sortP
    refine List.pairwise_map.mpr ((List.pairwise_mergeSort ple_trans ple_total (dd ps)).imp fun {x y} h => ?_)
    unfold ple at h
    unfold castP
    simp at h ⊢
    omega
  · refine hp.trans ?_
    unfold sortP
    exact ((List.mergeSort_perm (dd ps) ple).symm.map castP)
end Ap
set_option Elab.async false
set_option maxRecDepth 100000
/-! The rounds: as long as they change, they get finer. -/
namespace Ap
open PySem
theorem clsN_len (ns : List Nd) (c : List Nat) (h : c.length = ns.length) : (clsN ns c).length = ns.length := by
  unfold clsN
  rw [numd_length, List.length_map, List.length_zip, h, Nat.min_self]
theorem clsAt_len (ns : List Nd) : ∀ i, (clsAt ns i).length = ns.length
  | 0 => by
    show (cls0 ns).length = _
    unfold cls0
    rw [numd_length, List.length_map]
  | i + 1 => clsN_len ns _ (clsAt_len ns i)
theorem clsAt_succ (ns : List Nd) (i : Nat) : clsAt ns (i + 1) = clsN ns (clsAt ns i) := rfl
theorem clsAt_numd (ns : List Nd) : ∀ i, ∃ ks : List NestedKey, ks.length = ns.length ∧ clsAt ns i = numd ks
  | 0 => ⟨ns.map firstKey, by rw [List.length_map], rfl⟩
  | i + 1 => ⟨(ns.zip (clsAt ns i)).map fun p => nextKey p.2 (clsAt ns i) p.1, by rw [List.length_map, List.length_zip, clsAt_len, Nat.min_self], rfl⟩
theorem at_get {c : List Nat} {i : Nat} (h : i < c.length) : c[i]? = some (at_ c i) := by
  unfold at_
  rw [List.getElem?_eq_getElem h, List.getD_eq_getElem?_getD, List.getElem?_eq_getElem h]
  rfl
theorem clsAt_lt (ns : List Nd) (i j : Nat) (h : j < ns.length) : at_ (clsAt ns i) j < ns.length := by
  obtain ⟨ks, hl, e⟩ := clsAt_numd ns i
  have h1 : (clsAt ns i)[j]? = some (at_ (clsAt ns i) j) := at_get (by rw [clsAt_len]; exact h)
  rw [e] at h1 ⊢
  have := numd_lt h1
  omega
theorem nextKey_own {a b : Nat} {c : List Nat} {n m : Nd} (h : nextKey a c n = nextKey b c m) : a = b := by
  cases n <;> cases m <;> simp [nextKey, kn] at h <;> omega
/-- the key of the i-th -/
theorem keys_get {ns : List Nd} {c : List Nat} {i : Nat} {n : Nd} (hn : ns[i]? = some n) (hi : i < c.length) : ((ns.zip c).map fun p => nextKey p.2 c p.1)[i]? = some (nextKey (at_ c i) c n) := by
  have e : (ns.zip c)[i]? = some (n, at_ c i) := List.getElem?_zip_eq_some.mpr ⟨hn, at_get hi⟩
  rw [List.getElem?_map, e]
  rfl
theorem clsN_eq {ns : List Nd} {c : List Nat} (hc : c.length = ns.length) {i j : Nat} {n m : Nd} (hn : ns[i]? = some n) (hm : ns[j]? = some m) : at_ (clsN ns c) i = at_ (clsN ns c) j ↔ nextKey (at_ c i) c n = nextKey (at_ c j) c m := by
  have hi : i < ns.length := (List.getElem?_eq_some_iff.mp hn).1
  have hj : j < ns.length := (List.getElem?_eq_some_iff.mp hm).1
  have e := numd_eq (keys_get hn (hc ▸ hi)) (keys_get hm (hc ▸ hj))
  have l := clsN_len ns c hc
  have g1 : (clsN ns c)[i]? = some (at_ (clsN ns c) i) := at_get (by omega)
  have g2 : (clsN ns c)[j]? = some (at_ (clsN ns c) j) := at_get (by omega)
  unfold clsN at g1 g2 ⊢
  rw [g1, g2] at e
  rw [← e]
  exact ⟨fun q => by rw [q], fun q => Option.some.inj q⟩
theorem cls0_eq {ns : List Nd} {i j : Nat} {n m : Nd} (hn : ns[i]? = some n) (hm : ns[j]? = some m) : at_ (cls0 ns) i = at_ (cls0 ns) j ↔ firstKey n = firstKey m := by
  have hi : i < ns.length := (List.getElem?_eq_some_iff.mp hn).1
  have hj : j < ns.length := (List.getElem?_eq_some_iff.mp hm).1
  have e := numd_eq (ks := ns.map firstKey) (i := i) (j := j) (x := firstKey n) (y := firstKey m) (by rw [List.getElem?_map, hn]; rfl) (by rw [List.getElem?_map, hm]; rfl)
  have l : (cls0 ns).length = ns.length := clsAt_len ns 0
  have g1 : (cls0 ns)[i]? = some (at_ (cls0 ns) i) := at_get (by omega)
  have g2 : (cls0 ns)[j]? = some (at_ (cls0 ns) j) := at_get (by omega)
  unfold cls0 at g1 g2 ⊢
  rw [g1, g2] at e
  rw [← e]
  exact ⟨fun q => by rw [q], fun q => Option.some.inj q⟩
/-- a later round is finer -/
theorem clsN_fine {ns : List Nd} {c : List Nat} (hc : c.length = ns.length) {i j : Nat} (hi : i < ns.length) (hj : j < ns.length) (h : at_ (clsN ns c) i = at_ (clsN ns c) j) : at_ c i = at_ c j :=
  nextKey_own ((clsN_eq hc (List.getElem?_eq_getElem hi) (List.getElem?_eq_getElem hj)).mp h)
theorem clsAt_fine {ns : List Nd} {i j a b : Nat} (hi : i < ns.length) (hj : j < ns.length) (hab : a ≤ b) (h : at_ (clsAt ns b) i = at_ (clsAt ns b) j) : at_ (clsAt ns a) i = at_ (clsAt ns a) j := by
  obtain ⟨k, rfl⟩ := Nat.exists_eq_add_of_le hab
  clear hab
  induction k with
  | zero => exact h
  | succ k ih => exact ih (clsN_fine (clsAt_len ns (a + k)) hi hj h)
/-- the measure of the rounds -/
theorem round_less {ns : List Nd} {i : Nat} (h : clsN ns (clsAt ns i) ≠ clsAt ns i) : tog (clsAt ns (i + 1)) < tog (clsAt ns i) := by
  obtain ⟨ks, hk, e⟩ := clsAt_numd ns i
  obtain ⟨ls, hl, e'⟩ := clsAt_numd ns (i + 1)
  have ne : clsAt ns (i + 1) ≠ clsAt ns i := h
  rw [e, e'] at ne ⊢
  refine tog_less (hl.trans hk.symm) (fun a b ha hb q => ?_) ne
  rw [hk] at ha hb
  have q' : (clsAt ns (i + 1))[a]? = (clsAt ns (i + 1))[b]? := by rw [e']; exact q
  rw [at_get (by rw [clsAt_len]; exact ha), at_get (by rw [clsAt_len]; exact hb)] at q'
  have := clsN_fine (clsAt_len ns i) ha hb (Option.some.inj q')
  rw [← e, at_get (by rw [clsAt_len]; exact ha), at_get (by rw [clsAt_len]; exact hb), this]
theorem sq2_len (n : Nat) : (sq2 n).length = n * n := by
  unfold sq2
  rw [List.length_flatMap]
  have : (List.range n).map (fun i => ((List.range n).map fun j => (i, j)).length) = List.replicate n n := by
    refine List.ext_getElem (by simp) fun i h1 h2 => ?_
    simp
  rw [this]
  simp
theorem rounds_bound {ns : List Nd} : ∀ {i : Nat}, (∀ j, j < i → clsN ns (clsAt ns j) ≠ clsAt ns j) → i + tog (clsAt ns i) ≤ ns.length * ns.length
  | 0, _ => by
    have h : tog (clsAt ns 0) ≤ (sq2 (clsAt ns 0).length).length := List.countP_le_length
    rw [sq2_len, clsAt_len] at h
    omega
  | i + 1, h => by
    have h1 := rounds_bound (i := i) fun j hj => h j (by omega)
    have h2 := round_less (h i (by omega))
    omega
theorem stop_uniq {ns : List Nd} {a b : Nat} (ha : Stop ns a) (hb : Stop ns b) : a = b := by
  rcases Nat.lt_trichotomy a b with h | h | h
  · exact absurd ha.1 (hb.2 a h)
  · exact h
  · exact absurd hb.1 (ha.2 b h)
theorem exists_stop (ns : List Nd) : ∃ r, Stop ns r := by
  have key : ∀ m i, tog (clsAt ns i) ≤ m → (∀ j, j < i → clsN ns (clsAt ns j) ≠ clsAt ns j) → ∃ r, Stop ns r := by
    intro m
    induction m with
    | zero =>
      intro i h1 h2
      by_cases e : clsN ns (clsAt ns i) = clsAt ns i
      · exact ⟨i, e, h2⟩
      · have := round_less e
        omega
    | succ m ih =>
      intro i h1 h2
      by_cases e : clsN ns (clsAt ns i) = clsAt ns i
      · exact ⟨i, e, h2⟩
      · have := round_less e
        refine ih (i + 1) (by omega) fun j hj => ?_
        rcases Nat.lt_succ_iff_lt_or_eq.mp hj with hj | rfl
        · exact h2 j hj
        · exact e
  exact key _ 0 (Nat.le_refl _) fun j hj => absurd hj (Nat.not_lt_zero _)
/-- the number of the last round; the last classes -/
noncomputable def lastR (ns : List Nd) : Nat := Classical.choose (exists_stop ns)
theorem lastR_stop (ns : List Nd) : Stop ns (lastR ns) := Classical.choose_spec (exists_stop ns)
noncomputable def fin (ns : List Nd) : List Nat := clsAt ns (lastR ns)
theorem fin_of {ns : List Nd} {r : Nat} (h : Stop ns r) : clsAt ns r = fin ns := by rw [stop_uniq h (lastR_stop ns)]; rfl
theorem fin_len (ns : List Nd) : (fin ns).length = ns.length := clsAt_len ns _
theorem fin_fix (ns : List Nd) : clsN ns (fin ns) = fin ns := (lastR_stop ns).1
theorem fin_lt (ns : List Nd) (j : Nat) (h : j < ns.length) : at_ (fin ns) j < ns.length := clsAt_lt ns _ j h
/-- together at the last: the same first keys, the same keys by the last classes -/
theorem fin_first {ns : List Nd} {i j : Nat} {n m : Nd} (hn : ns[i]? = some n) (hm : ns[j]? = some m) (h : at_ (fin ns) i = at_ (fin ns) j) : firstKey n = firstKey m := by
  have hi : i < ns.length := (List.getElem?_eq_some_iff.mp hn).1
  have hj : j < ns.length := (List.getElem?_eq_some_iff.mp hm).1
  exact (cls0_eq hn hm).mp (clsAt_fine hi hj (Nat.zero_le _) h)
theorem fin_next {ns : List Nd} {i j : Nat} {n m : Nd} (hn : ns[i]? = some n) (hm : ns[j]? = some m) (h : at_ (fin ns) i = at_ (fin ns) j) : nextKey (at_ (fin ns) i) (fin ns) n = nextKey (at_ (fin ns) j) (fin ns) m := by
  refine (clsN_eq (fin_len ns) hn hm).mp ?_
  rw [fin_fix]
  exact h
end Ap
set_option Elab.async false
set_option maxRecDepth 100000
/-! Two graphs side by side; the search for a paper ends, and what it finds stands. -/
namespace Ap
open PySem
/-- nodes that make a graph whose top is n, as the law has them -/
structure Gok (ns : List Nd) (n : Nat) : Prop where
  len : ns.length ≤ 100
  ok : ∀ nd ∈ ns, nd.len ≤ 4 ∧ nd.below ns.length
  top : n < ns.length
/-- together at the last, of one graph and of another -/
def eqv_ (ns ms : List Nd) (i j : Nat) : Prop := at_ (fin (joinN ns ms)) i = at_ (fin (joinN ns ms)) (j + ns.length)
theorem shift_below {a b : Nat} {n : Nd} (h : n.below a) : (n.shift b).below (b + a) := by
  cases n with
  | sc t x => trivial
  | sq t xs =>
    intro y hy
    obtain ⟨x, hx, rfl⟩ := List.mem_map.mp hy
    have := h x hx
    omega
  | mp t es =>
    intro y hy
    obtain ⟨x, hx, rfl⟩ := List.mem_map.mp hy
    have := h x hx
    constructor <;> simp <;> omega
theorem below_mono {a b : Nat} (hab : a ≤ b) {n : Nd} (h : n.below a) : n.below b := by
  cases n with
  | sc t x => trivial
  | sq t xs => exact fun y hy => Nat.lt_of_lt_of_le (h y hy) hab
  | mp t es => exact fun y hy => ⟨Nat.lt_of_lt_of_le (h y hy).1 hab, Nat.lt_of_lt_of_le (h y hy).2 hab⟩
theorem shift_len {b : Nat} {n : Nd} : (n.shift b).len = n.len := by cases n <;> simp [Nd.shift, Nd.len]
theorem join_len (ns ms : List Nd) : (joinN ns ms).length = ns.length + ms.length := by simp [joinN]
theorem join_l {ns ms : List Nd} {i : Nat} {n : Nd} (h : ns[i]? = some n) : (joinN ns ms)[i]? = some n := by
  unfold joinN
  rw [List.getElem?_append_left (List.getElem?_eq_some_iff.mp h).1]
  exact h
theorem join_r {ns ms : List Nd} {j : Nat} {m : Nd} (h : ms[j]? = some m) : (joinN ns ms)[j + ns.length]? = some (m.shift ns.length) := by
  unfold joinN
  rw [List.getElem?_append_right (by omega), Nat.add_sub_cancel, List.getElem?_map, h]
  rfl
theorem first_shift (b : Nat) (n : Nd) : firstKey (n.shift b) = firstKey n := by cases n <;> simp [Nd.shift, firstKey]
theorem ndAt_of {ns : List Nd} {i : Nat} {n : Nd} (h : ns[i]? = some n) : ndAt ns i = n := by
  unfold ndAt
  rw [List.getD_eq_getElem?_getD, h]
  rfl
theorem ndAt_get {ns : List Nd} {i : Nat} (h : i < ns.length) : ns[i]? = some (ndAt ns i) := by
  rw [List.getElem?_eq_getElem h, ndAt_of (List.getElem?_eq_getElem h)]
theorem eqv_first {ns ms : List Nd} {i j : Nat} (hi : i < ns.length) (hj : j < ms.length) (h : eqv_ ns ms i j) : firstKey (ndAt ns i) = firstKey (ndAt ms j) := by
  have := fin_first (join_l (ms := ms) (ndAt_get hi)) (join_r (ns := ns) (ndAt_get hj)) h
  rw [first_shift] at this
  exact this
theorem eqv_next {ns ms : List Nd} {i j : Nat} (hi : i < ns.length) (hj : j < ms.length) (h : eqv_ ns ms i j) :
    ∃ a b, nextKey a (fin (joinN ns ms)) (ndAt ns i) = nextKey b (fin (joinN ns ms)) ((ndAt ms j).shift ns.length) :=
  ⟨_, _, fin_next (join_l (ms := ms) (ndAt_get hi)) (join_r (ns := ns) (ndAt_get hj)) h⟩
theorem mem_sortP {ps : List (Nat × Nat)} {p : Nat × Nat} : p ∈ sortP ps ↔ p ∈ ps := by
  unfold sortP
  rw [(List.mergeSort_perm (dd ps) ple).mem_iff, mem_dd]
/-- a pair of numbers that lie in their graphs and are together at the last -/
def Rg (ns ms : List Nd) (p : Nat × Nat) : Prop := p.1 < ns.length ∧ p.2 < ms.length ∧ eqv_ ns ms p.1 p.2
theorem knp_inj {xs ys : List (Nat × Nat)} (h : xs.map (fun p => NestedKey.tup [kn p.1, kn p.2]) = ys.map fun p => NestedKey.tup [kn p.1, kn p.2]) : xs = ys := by
  induction xs generalizing ys with
  | nil => cases ys <;> simp at h ⊢
  | cons x xs ih =>
    cases ys with
    | nil => simp at h
    | cons y ys =>
      simp only [List.map_cons, List.cons.injEq] at h
      obtain ⟨h1, h2⟩ := h
      obtain ⟨a, b⟩ := x
      obtain ⟨c, d⟩ := y
      simp [kn] at h1
      have e1 : a = c := by omega
      have e2 : b = d := by omega
      rw [e1, e2, ih h2]
theorem zip_eq {f g : Nat → Nat} : ∀ {xs ys : List Nat}, xs.map (fun x => kn (f x)) = ys.map (fun y => kn (g y)) → ∀ p ∈ xs.zip ys, f p.1 = g p.2
  | [], _, _, p, hp => by simp at hp
  | _ :: _, [], _, p, hp => by simp at hp
  | x :: xs, y :: ys, h, p, hp => by
    simp only [List.map_cons, List.cons.injEq] at h
    rcases List.mem_cons.mp hp with rfl | hp
    · have := h.1
      simp [kn] at this
      show f x = g y
      omega
    · exact zip_eq h.2 p hp
/-- the next goals lie within and are together -/
theorem goals_rg {ns ms : List Nd} {n m i j : Nat} (gn : Gok ns n) (gm : Gok ms m) (h : Rg ns ms (i, j)) : ∀ p ∈ eqGoals (fin (joinN ns ms)) ns.length (ndAt ns i) (ndAt ms j), Rg ns ms p := by
  obtain ⟨hi, hj, he⟩ := h
  obtain ⟨a, b, hk⟩ := eqv_next hi hj he
  have o1 := (gn.ok _ (List.mem_of_getElem? (ndAt_get hi))).2
  have o2 := (gm.ok _ (List.mem_of_getElem? (ndAt_get hj))).2
  intro p hp
  generalize ndAt ns i = x at *
  generalize ndAt ms j = y at *
  cases x with
  | sc t x => simp [eqGoals] at hp
  | sq t xs =>
    cases y with
    | sq t' ys =>
      simp only [eqGoals] at hp
      simp only [nextKey, Nd.shift, List.map_map] at hk
      have hk2 : xs.map (fun x => kn (at_ (fin (joinN ns ms)) x)) = ys.map (fun y => kn (at_ (fin (joinN ns ms)) (y + ns.length))) := by
        injection hk with hk
        injection hk with _ hk
        injection hk with hk _
        injection hk with hk
      have hz := zip_eq (f := fun x => at_ (fin (joinN ns ms)) x) (g := fun y => at_ (fin (joinN ns ms)) (y + ns.length)) hk2 p hp
      obtain ⟨p1, p2⟩ := p
      exact ⟨o1 _ (List.of_mem_zip hp).1, o2 _ (List.of_mem_zip hp).2, hz⟩
    | sc t' x' => simp [eqGoals] at hp
    | mp t' es => simp [eqGoals] at hp
  | mp t es =>
    cases y with
    | mp t' fs =>
      simp only [eqGoals, List.mem_flatMap] at hp
      obtain ⟨e, he, f, hf, hp⟩ := hp
      split at hp
      · rename_i hc
        simp only [List.mem_cons, List.not_mem_nil, or_false] at hp
        rcases hp with rfl | rfl
        · exact ⟨(o1 e he).1, (o2 f hf).1, hc.1⟩
        · exact ⟨(o1 e he).2, (o2 f hf).2, hc.2⟩
      · simp at hp
    | sc t' x' => simp [eqGoals] at hp
    | sq t' xs => simp [eqGoals] at hp
theorem goals_len {c : List Nat} {b : Nat} {n m : Nd} (h1 : n.len ≤ 4) (h2 : m.len ≤ 4) : (eqGoals c b n m).length ≤ 32 := by
  cases n with
  | sc t x => simp [eqGoals]
  | sq t xs =>
    cases m with
    | sq t' ys =>
      simp only [eqGoals, List.length_zip]
      have : xs.length ≤ 4 := h1
      omega
    | sc t' x' => simp [eqGoals]
    | mp t' es => simp [eqGoals]
  | mp t es =>
    cases m with
    | mp t' fs =>
      simp only [eqGoals]
      have l1 : es.length ≤ 4 := h1
      have l2 : fs.length ≤ 4 := h2
      have inner : ∀ (e : Nat × Nat) (fs : List (Nat × Nat)), (fs.flatMap fun f => if at_ c e.1 = at_ c (f.1 + b) ∧ at_ c e.2 = at_ c (f.2 + b) then [(e.1, f.1), (e.2, f.2)] else []).length ≤ 2 * fs.length := by
        intro e fs
        induction fs with
        | nil => simp
        | cons f fs ih =>
          rw [List.flatMap_cons, List.length_append, List.length_cons]
          have : (if at_ c e.1 = at_ c (f.1 + b) ∧ at_ c e.2 = at_ c (f.2 + b) then [(e.1, f.1), (e.2, f.2)] else []).length ≤ 2 := by split <;> simp
          omega
      have outer : ∀ es : List (Nat × Nat), (es.flatMap fun e => fs.flatMap fun f => if at_ c e.1 = at_ c (f.1 + b) ∧ at_ c e.2 = at_ c (f.2 + b) then [(e.1, f.1), (e.2, f.2)] else []).length ≤ es.length * (2 * fs.length) := by
        intro es
        induction es with
        | nil => simp
        | cons e es ih =>
          rw [List.flatMap_cons, List.length_append, List.length_cons, Nat.succ_mul]
          have := inner e fs
          omega
      have h3 := outer es
      have h4 : es.length * (2 * fs.length) ≤ 4 * (2 * 4) := Nat.mul_le_mul l1 (by omega)
      omega
    | sc t' x' => simp [eqGoals]
    | sq t' xs => simp [eqGoals]
/-! ### the search ends -/
def grid (a b : Nat) : List (Nat × Nat) := (List.range a).flatMap fun i => (List.range b).map fun j => (i, j)
theorem mem_grid {a b i j : Nat} : (i, j) ∈ grid a b ↔ i < a ∧ j < b := by
  unfold grid
  simp
theorem grid_len (a b : Nat) : (grid a b).length = a * b := by
  unfold grid
  rw [List.length_flatMap]
  have : (List.range a).map (fun i => ((List.range b).map fun j => (i, j)).length) = List.replicate a b := by
    refine List.ext_getElem (by simp) fun i h1 h2 => ?_
    simp
  rw [this]
  simp
section
variable {ns ms : List Nd} {n m : Nat}
/-- what holds of a state of the search -/
structure SkOk (ns ms : List Nd) (s : List (Nat × Nat) × List (Nat × Nat)) : Prop where
  found : ∀ p ∈ s.1, Rg ns ms p
  wait : ∀ p ∈ s.2, Rg ns ms p
  nd : s.1.Nodup
  cl : ∀ p ∈ s.1, ∀ q ∈ eqGoals (fin (joinN ns ms)) ns.length (ndAt ns p.1) (ndAt ms p.2), q ∈ s.1 ∨ q ∈ s.2
def mu (ns ms : List Nd) (s : List (Nat × Nat) × List (Nat × Nat)) : Nat := 33 * (grid ns.length ms.length).countP (fun p => !decide (p ∈ s.1)) + s.2.length
theorem last_split {xs : List (Nat × Nat)} {p : Nat × Nat} (h : xs.getLast? = some p) : xs = xs.dropLast ++ [p] := by
  have hne : xs ≠ [] := by rintro rfl; simp at h
  rw [List.getLast?_eq_some_getLast hne] at h
  cases Option.some.inj h
  exact (List.dropLast_concat_getLast hne).symm
noncomputable abbrev trn (ns ms : List Nd) : List (Nat × Nat) × List (Nat × Nat) → List (Nat × Nat) × List (Nat × Nat) := turnP (fin (joinN ns ms)) ns ms
theorem turn_ok (gn : Gok ns n) (gm : Gok ms m) {s : List (Nat × Nat) × List (Nat × Nat)} (h : SkOk ns ms s) : SkOk ns ms (trn ns ms s) := by
  unfold trn turnP
  cases e : s.2.getLast? with
  | none => exact h
  | some p =>
    have es := last_split e
    have hp : Rg ns ms p := h.wait p (by rw [es]; simp)
    have hd : ∀ q ∈ s.2.dropLast, q ∈ s.2 := fun q hq => by rw [es]; exact List.mem_append_left _ hq
    simp only []
    split
    · rename_i hin
      refine ⟨h.found, fun q hq => h.wait q (hd q hq), h.nd, fun q hq r hr => ?_⟩
      rcases h.cl q hq r hr with z | z
      · exact .inl z
      · rw [es] at z
        rcases List.mem_append.mp z with z | z
        · exact .inr z
        · rw [List.mem_singleton.mp z]
          exact .inl hin
    · rename_i hin
      refine ⟨fun q hq => ?_, fun q hq => ?_, ?_, fun q hq r hr => ?_⟩
      · rcases List.mem_append.mp hq with hq | hq
        · exact h.found q hq
        · rw [List.mem_singleton.mp hq]; exact hp
      · rcases List.mem_append.mp hq with hq | hq
        · exact h.wait q (hd q hq)
        · exact goals_rg gn gm hp q hq
      · rw [List.nodup_append]
        refine ⟨h.nd, by simp, fun a ha b hb z => ?_⟩
        rw [List.mem_singleton.mp hb] at z
        subst z
        exact hin ha
      · simp only [List.mem_append, List.mem_singleton] at hq ⊢
        rcases hq with hq | rfl
        · rcases h.cl q hq r hr with z | z
          · exact .inl (.inl z)
          · rw [es] at z
            rcases List.mem_append.mp z with z | z
            · exact .inr (.inl z)
            · exact .inl (.inr (List.mem_singleton.mp z))
        · exact .inr (.inr hr)
theorem turn_less (gn : Gok ns n) (gm : Gok ms m) {s : List (Nat × Nat) × List (Nat × Nat)} (h : SkOk ns ms s) (hne : s.2 ≠ []) : mu ns ms (trn ns ms s) < mu ns ms s := by
  unfold trn turnP
  cases e : s.2.getLast? with
  | none => exact absurd (List.getLast?_eq_none_iff.mp e) hne
  | some p =>
    have es := last_split e
    have hp : Rg ns ms p := h.wait p (by rw [es]; simp)
    have hl : s.2.length = s.2.dropLast.length + 1 := by
      conv => lhs; rw [es]
      rw [List.length_append, List.length_singleton]
    simp only []
    split
    · unfold mu
      simp only []
      omega
    · rename_i hin
      unfold mu
      simp only []
      have hlen := goals_len (c := fin (joinN ns ms)) (b := ns.length) (gn.ok _ (List.mem_of_getElem? (ndAt_get hp.1))).1 (gm.ok _ (List.mem_of_getElem? (ndAt_get hp.2.1))).1
      have hlt : (grid ns.length ms.length).countP (fun q => !decide (q ∈ s.1 ++ [p])) < (grid ns.length ms.length).countP (fun q => !decide (q ∈ s.1)) := by
        refine countP_less (fun q _ hq => ?_) ⟨p, mem_grid.mpr ⟨hp.1, hp.2.1⟩, ?_, ?_⟩
        · simp at hq ⊢
          exact hq.1
        · simp [hin]
        · simp
      rw [List.length_append]
      omega
/-- the state after k turns -/
noncomputable abbrev sk (ns ms : List Nd) (n m k : Nat) : List (Nat × Nat) × List (Nat × Nat) := seekP (fin (joinN ns ms)) ns ms n m k
theorem sk_ok (gn : Gok ns n) (gm : Gok ms m) (he : eqv_ ns ms n m) : ∀ k, SkOk ns ms (sk ns ms n m k)
  | 0 => ⟨fun p hp => by simp [sk, seekP, iter] at hp, fun p hp => by
      rw [List.mem_singleton.mp hp]
      exact ⟨gn.top, gm.top, he⟩, by simp [sk, seekP, iter], fun p hp => by simp [sk, seekP, iter] at hp⟩
  | k + 1 => turn_ok gn gm (sk_ok gn gm he k)
theorem sk_mu (gn : Gok ns n) (gm : Gok ms m) (he : eqv_ ns ms n m) : ∀ k, (∀ j, j < k → (sk ns ms n m j).2 ≠ []) → k + mu ns ms (sk ns ms n m k) ≤ 33 * (ns.length * ms.length) + 1
  | 0, _ => by
    have h : (grid ns.length ms.length).countP (fun p => !decide (p ∈ (sk ns ms n m 0).1)) ≤ (grid ns.length ms.length).length := List.countP_le_length
    rw [grid_len] at h
    unfold mu
    have : (sk ns ms n m 0).2.length = 1 := rfl
    omega
  | k + 1, h => by
    have h1 := sk_mu gn gm he k fun j hj => h j (by omega)
    have h2 : mu ns ms (sk ns ms n m (k + 1)) < mu ns ms (sk ns ms n m k) := turn_less gn gm (sk_ok gn gm he k) (h k (by omega))
    omega
theorem sk_done (gn : Gok ns n) (gm : Gok ms m) (he : eqv_ ns ms n m) : ∃ k, (sk ns ms n m k).2 = [] ∧ ∀ j, j < k → (sk ns ms n m j).2 ≠ [] := by
  have key : ∀ a k, mu ns ms (sk ns ms n m k) ≤ a → (∀ j, j < k → (sk ns ms n m j).2 ≠ []) → ∃ k, (sk ns ms n m k).2 = [] ∧ ∀ j, j < k → (sk ns ms n m j).2 ≠ [] := by
    intro a
    induction a with
    | zero =>
      intro k h1 h2
      by_cases e : (sk ns ms n m k).2 = []
      · exact ⟨k, e, h2⟩
      · have : mu ns ms (sk ns ms n m (k + 1)) < mu ns ms (sk ns ms n m k) := turn_less gn gm (sk_ok gn gm he k) e
        omega
    | succ a ih =>
      intro k h1 h2
      by_cases e : (sk ns ms n m k).2 = []
      · exact ⟨k, e, h2⟩
      · have : mu ns ms (sk ns ms n m (k + 1)) < mu ns ms (sk ns ms n m k) := turn_less gn gm (sk_ok gn gm he k) e
        refine ih (k + 1) (by omega) fun j hj => ?_
        rcases Nat.lt_succ_iff_lt_or_eq.mp hj with hj | rfl
        · exact h2 j hj
        · exact e
  exact key _ 0 (Nat.le_refl _) fun j hj => absurd hj (Nat.not_lt_zero _)
/-- how many turns the search takes -/
noncomputable def skN (ns ms : List Nd) (n m : Nat) : Nat := open Classical in if h : ∃ k, (sk ns ms n m k).2 = [] ∧ ∀ j, j < k → (sk ns ms n m j).2 ≠ [] then Classical.choose h else 0
theorem skN_spec (gn : Gok ns n) (gm : Gok ms m) (he : eqv_ ns ms n m) : (sk ns ms n m (skN ns ms n m)).2 = [] ∧ ∀ j, j < skN ns ms n m → (sk ns ms n m j).2 ≠ [] := by
  have h := sk_done gn gm he
  unfold skN
  rw [dif_pos h]
  exact Classical.choose_spec h
/-- the paper -/
noncomputable def paperN (ns ms : List Nd) (n m : Nat) : List (Nat × Nat) := (sk ns ms n m (skN ns ms n m)).1
theorem sk_first (gn : Gok ns n) (gm : Gok ms m) (he : eqv_ ns ms n m) : ∀ k, (n, m) ∈ (sk ns ms n m k).1 ∨ (n, m) ∈ (sk ns ms n m k).2
  | 0 => .inr (List.mem_singleton.mpr rfl)
  | k + 1 => by
    have ih := sk_first gn gm he k
    show (n, m) ∈ (trn ns ms (sk ns ms n m k)).1 ∨ (n, m) ∈ (trn ns ms (sk ns ms n m k)).2
    unfold trn turnP
    cases e : (sk ns ms n m k).2.getLast? with
    | none => exact ih
    | some p =>
      have es := last_split e
      simp only []
      split
      · rename_i hin
        rcases ih with z | z
        · exact .inl z
        · rw [es] at z
          rcases List.mem_append.mp z with z | z
          · exact .inr z
          · rw [List.mem_singleton.mp z]
            exact .inl hin
      · simp only [List.mem_append, List.mem_singleton]
        rcases ih with z | z
        · exact .inl (.inl z)
        · rw [es] at z
          rcases List.mem_append.mp z with z | z
          · exact .inr (.inl z)
          · exact .inl (.inr (List.mem_singleton.mp z))
end
end Ap
set_option Elab.async false
set_option maxRecDepth 100000
/-! What paper_of tells is judged right. -/
namespace Ap
open PySem
theorem mp_match {f g : Nat × Nat → Nat × Nat} {es fs : List (Nat × Nat)} (h : (sortP (es.map f)).map (fun p => NestedKey.tup [kn p.1, kn p.2]) = (sortP (fs.map g)).map fun p => NestedKey.tup [kn p.1, kn p.2]) :
    (∀ e ∈ es, ∃ x ∈ fs, f e = g x) ∧ ∀ x ∈ fs, ∃ e ∈ es, f e = g x := by
  have hs := knp_inj h
  constructor
  · intro e he
    have : f e ∈ sortP (fs.map g) := by rw [← hs]; exact mem_sortP.mpr (List.mem_map.mpr ⟨e, he, rfl⟩)
    obtain ⟨x, hx, q⟩ := List.mem_map.mp (mem_sortP.mp this)
    exact ⟨x, hx, q.symm⟩
  · intro x hx
    have : g x ∈ sortP (es.map f) := by rw [hs]; exact mem_sortP.mpr (List.mem_map.mpr ⟨x, hx, rfl⟩)
    obtain ⟨e, he, q⟩ := List.mem_map.mp (mem_sortP.mp this)
    exact ⟨e, he, q⟩
section
variable {ns ms : List Nd} {n m : Nat}
/-- where all goals of a pair are known, it stands -/
theorem stands_of {known : List (Nat × Nat)} {i j : Nat} (h : Rg ns ms (i, j)) (hk : ∀ q ∈ eqGoals (fin (joinN ns ms)) ns.length (ndAt ns i) (ndAt ms j), q ∈ known) : standsP known (ndAt ns i) (ndAt ms j) = true := by
  obtain ⟨hi, hj, he⟩ := h
  have hf := eqv_first hi hj he
  obtain ⟨a, b, hn⟩ := eqv_next hi hj he
  generalize ndAt ns i = x at *
  generalize ndAt ms j = y at *
  unfold standsP
  rw [decide_eq_true hf, Bool.true_and]
  cases x with
  | sc t x => rfl
  | sq t xs =>
    cases y with
    | sc t' x' => rfl
    | sq t' ys =>
      simp only [List.all_eq_true]
      exact fun p hp => decide_eq_true (hk p hp)
    | mp t' es => rfl
  | mp t es =>
    cases y with
    | sc t' x' => rfl
    | sq t' ys => rfl
    | mp t' fs =>
      simp only [nextKey, Nd.shift, List.map_map] at hn
      have hn2 : (sortP (es.map fun e => (at_ (fin (joinN ns ms)) e.1, at_ (fin (joinN ns ms)) e.2))).map (fun p => NestedKey.tup [kn p.1, kn p.2]) =
          (sortP (fs.map fun e => (at_ (fin (joinN ns ms)) (e.1 + ns.length), at_ (fin (joinN ns ms)) (e.2 + ns.length)))).map fun p => NestedKey.tup [kn p.1, kn p.2] := by
        injection hn with hn
        injection hn with _ hn
        injection hn with hn _
        injection hn with hn
      obtain ⟨m1, m2⟩ := mp_match hn2
      have fit : ∀ e ∈ es, ∀ x ∈ fs, (at_ (fin (joinN ns ms)) e.1, at_ (fin (joinN ns ms)) e.2) = (at_ (fin (joinN ns ms)) (x.1 + ns.length), at_ (fin (joinN ns ms)) (x.2 + ns.length)) → fitE known e x = true := by
        intro e he x hx q
        have q1 := congrArg Prod.fst q
        have q2 := congrArg Prod.snd q
        have g : ∀ r ∈ [(e.1, x.1), (e.2, x.2)], r ∈ known := fun r hr => hk r (by
          simp only [eqGoals, List.mem_flatMap]
          refine ⟨e, he, x, hx, ?_⟩
          rw [if_pos ⟨q1, q2⟩]
          exact hr)
        unfold fitE
        rw [decide_eq_true (g _ (by simp)), decide_eq_true (g _ (by simp))]
        rfl
      simp only [Bool.and_eq_true, List.all_eq_true, List.any_eq_true]
      constructor
      · intro e he
        obtain ⟨x, hx, q⟩ := m1 e he
        exact ⟨x, hx, fit e he x hx q⟩
      · intro x hx
        obtain ⟨e, he, q⟩ := m2 x hx
        exact ⟨e, he, fit e he x hx q⟩
theorem paper_ok (gn : Gok ns n) (gm : Gok ms m) (he : eqv_ ns ms n m) : (∀ p ∈ paperN ns ms n m, Rg ns ms p) ∧ (paperN ns ms n m).Nodup ∧ (∀ p ∈ paperN ns ms n m, standsP (paperN ns ms n m) (ndAt ns p.1) (ndAt ms p.2) = true) ∧ (n, m) ∈ paperN ns ms n m := by
  have ok := sk_ok gn gm he (skN ns ms n m)
  obtain ⟨h0, _⟩ := skN_spec gn gm he
  refine ⟨ok.found, ok.nd, fun p hp => stands_of (ok.found p hp) fun q hq => ?_, ?_⟩
  · rcases ok.cl p hp q hq with z | z
    · exact z
    · rw [h0] at z; simp at z
  · rcases sk_first gn gm he (skN ns ms n m) with z | z
    · exact z
    · rw [h0] at z; simp at z
theorem known_some (ps : List (Nat × Nat)) : knownOf (ps.map some) = ps := by
  unfold knownOf
  induction ps with
  | nil => rfl
  | cons p ps ih => rw [List.map_cons, List.filterMap_cons]; simp [ih]
theorem judgeGo_none {known : List (Nat × Nat)} : ∀ {ps : List (Nat × Nat)} {i : Nat} {seen : List (Nat × Nat)}, ps.Nodup → (∀ p ∈ ps, p ∉ seen) → (∀ p ∈ ps, standsP known (ndAt ns p.1) (ndAt ms p.2) = true) → judgeGo ns ms known i seen (ps.map some) = none
  | [], _, _, _, _, _ => rfl
  | p :: ps, i, seen, hn, hs, hk => by
    rw [List.nodup_cons] at hn
    rw [List.map_cons, judgeGo, if_neg (hs p (List.mem_cons_self ..)), if_pos (hk p (List.mem_cons_self ..))]
    refine judgeGo_none hn.2 (fun q hq z => ?_) fun q hq => hk q (List.mem_cons_of_mem _ hq)
    rcases List.mem_append.mp z with z | z
    · exact hs q (List.mem_cons_of_mem _ hq) z
    · rw [List.mem_singleton.mp z] at hq
      exact hn.1 hq
/-- a whole paper without doubles whose pairs all stand -/
theorem judge_none {ps : List (Nat × Nat)} (h1 : ps.Nodup) (h2 : ∀ p ∈ ps, standsP ps (ndAt ns p.1) (ndAt ms p.2) = true) (h3 : (n, m) ∈ ps) : judge ns ms n m (ps.map some) = none := by
  unfold judge
  rw [known_some, judgeGo_none h1 (fun p _ z => by simp at z) h2, if_pos h3]
theorem judge_paper (gn : Gok ns n) (gm : Gok ms m) (he : eqv_ ns ms n m) : judge ns ms n m ((paperN ns ms n m).map some) = none := by
  obtain ⟨_, h2, h3, h4⟩ := paper_ok gn gm he
  exact judge_none h2 h3 h4
end
end Ap
set_option Elab.async false
set_option maxRecDepth 100000
/-! Two great rings: everything is together; a paper without one pair. -/
namespace Ap
open PySem
def ring (N : Nat) : List Nd := (List.range N).map fun k => .sq "!!seq" [(k + 1) % N]
theorem ring_len (N : Nat) : (ring N).length = N := by simp [ring]
theorem ring_get {N i : Nat} (h : i < N) : (ring N)[i]? = some (.sq "!!seq" [(i + 1) % N]) := by
  unfold ring
  rw [List.getElem?_map, List.getElem?_range h]
  rfl
theorem ring_at {N i : Nat} (h : i < N) : ndAt (ring N) i = .sq "!!seq" [(i + 1) % N] := ndAt_of (ring_get h)
theorem ring_mem {N : Nat} {nd : Nd} (h : nd ∈ ring N) : ∃ x, x < N ∧ nd = .sq "!!seq" [x] := by
  unfold ring at h
  obtain ⟨k, hk, rfl⟩ := List.mem_map.mp h
  have := List.mem_range.mp hk
  exact ⟨(k + 1) % N, Nat.mod_lt _ (by omega), rfl⟩
theorem ring_ok {N : Nat} (h0 : 0 < N) (h1 : N ≤ 100) : Gok (ring N) 0 := by
  refine ⟨by rw [ring_len]; exact h1, fun nd hx => ?_, by rw [ring_len]; exact h0⟩
  obtain ⟨x, hx2, rfl⟩ := ring_mem hx
  refine ⟨by show 1 ≤ 4; decide, fun y hy => ?_⟩
  rw [List.mem_singleton.mp hy, ring_len]
  exact hx2
/-- one key alone: all have the number 0 -/
theorem dd_const {κ : Type} [DecidableEq κ] {k0 : κ} : ∀ {ks : List κ}, (∀ k ∈ ks, k = k0) → dd ks = [] ∨ dd ks = [k0] := by
  intro ks h
  have key : ∀ (ks acc : List κ), (acc = [] ∨ acc = [k0]) → (∀ k ∈ ks, k = k0) → ks.foldl ddS acc = [] ∨ ks.foldl ddS acc = [k0] := by
    intro ks
    induction ks with
    | nil => intro acc ha _; exact ha
    | cons k ks ih =>
      intro acc ha hk
      rw [List.foldl_cons]
      refine ih _ ?_ fun x hx => hk x (List.mem_cons_of_mem _ hx)
      have e := hk k (List.mem_cons_self ..)
      subst e
      rcases ha with rfl | rfl
      · right
        unfold ddS
        simp
      · right
        unfold ddS
        simp
  exact key ks [] (.inl rfl) h
theorem numd_const {κ : Type} [DecidableEq κ] {k0 : κ} {ks : List κ} (h : ∀ k ∈ ks, k = k0) : numd ks = List.replicate ks.length 0 := by
  refine List.eq_replicate_iff.mpr ⟨numd_length ks, fun n hn => ?_⟩
  unfold numd at hn
  obtain ⟨k, hk, rfl⟩ := List.mem_map.mp hn
  have e := h k hk
  subst e
  rcases dd_const h with e | e
  · have := mem_dd.mpr hk
    rw [e] at this
    simp at this
  · rw [e]
    simp
/-- nodes that are all alike: a sequence of one -/
def Alike (ns : List Nd) : Prop := ∀ nd ∈ ns, ∃ x, x < ns.length ∧ nd = .sq "!!seq" [x]
theorem alike_cls {ns : List Nd} (h : Alike ns) : cls0 ns = List.replicate ns.length 0 := by
  unfold cls0
  rw [numd_const (k0 := .tup [.text "sequence", .text "!!seq", kn 1]) fun k hk => ?_, List.length_map]
  obtain ⟨nd, hn, rfl⟩ := List.mem_map.mp hk
  obtain ⟨x, _, rfl⟩ := h nd hn
  rfl
theorem at_rep {n i : Nat} : at_ (List.replicate n 0) i = 0 := by
  unfold at_
  rw [List.getD_eq_getElem?_getD, List.getElem?_replicate]
  split <;> rfl
theorem alike_next {ns : List Nd} (h : Alike ns) : clsN ns (List.replicate ns.length 0) = List.replicate ns.length 0 := by
  unfold clsN
  rw [numd_const (k0 := .tup [kn 0, .tup [kn 0]]) fun k hk => ?_, List.length_map, List.length_zip, List.length_replicate, Nat.min_self]
  obtain ⟨⟨nd, own⟩, hp, rfl⟩ := List.mem_map.mp hk
  obtain ⟨x, _, rfl⟩ := h nd (List.of_mem_zip hp).1
  have e := List.eq_of_mem_replicate (List.of_mem_zip hp).2
  subst e
  simp [nextKey, at_rep]
theorem alike_fin {ns : List Nd} (h : Alike ns) : fin ns = List.replicate ns.length 0 := by
  have e0 : clsAt ns 0 = List.replicate ns.length 0 := alike_cls h
  rw [← fin_of (r := 0) ⟨?_, fun i hi => absurd hi (Nat.not_lt_zero _)⟩]
  · exact e0
  · rw [e0]
    exact alike_next h
theorem ring_alike (a b : Nat) : Alike (joinN (ring a) (ring b)) := by
  intro nd hx
  rw [join_len, ring_len, ring_len]
  rcases List.mem_append.mp hx with hx | hx
  · obtain ⟨x, h, rfl⟩ := ring_mem hx
    exact ⟨x, by omega, rfl⟩
  · obtain ⟨y, hy, rfl⟩ := List.mem_map.mp hx
    obtain ⟨x, h, rfl⟩ := ring_mem hy
    exact ⟨x + (ring a).length, by rw [ring_len]; omega, rfl⟩
theorem ring_eqv (a b i j : Nat) : eqv_ (ring a) (ring b) i j := by
  unfold eqv_
  rw [alike_fin (ring_alike a b), at_rep, at_rep]
/-! ### the whole grid as a paper -/
theorem grid_nodup (a b : Nat) : (grid a b).Nodup := by
  unfold grid
  refine List.pairwise_flatMap.mpr ⟨fun i _ => ?_, ?_⟩
  · refine List.pairwise_map.mpr ?_
    exact List.nodup_range.imp fun {x y} h z => h (Prod.mk.inj z).2
  · refine List.nodup_range.imp fun {x y} h p hp q hq z => ?_
    obtain ⟨_, _, rfl⟩ := List.mem_map.mp hp
    obtain ⟨_, _, rfl⟩ := List.mem_map.mp hq
    exact h (Prod.mk.inj z).1
theorem paper_grid {ns ms : List Nd} {n m : Nat} (gn : Gok ns n) (gm : Gok ms m) (he : eqv_ ns ms n m) : (paperN ns ms n m).length ≤ ns.length * ms.length := by
  obtain ⟨h1, h2, _⟩ := paper_ok gn gm he
  rw [← grid_len]
  refine List.Nodup.length_le_of_subset h2 fun p hp => ?_
  obtain ⟨i, j⟩ := p
  exact mem_grid.mpr ⟨(h1 _ hp).1, (h1 _ hp).2.1⟩
def succP (a b : Nat) (p : Nat × Nat) : Nat × Nat := ((p.1 + 1) % a, (p.2 + 1) % b)
theorem ring_stands {a b : Nat} {known : List (Nat × Nat)} {p : Nat × Nat} (h1 : p.1 < a) (h2 : p.2 < b) : standsP known (ndAt (ring a) p.1) (ndAt (ring b) p.2) = decide (succP a b p ∈ known) := by
  rw [ring_at h1, ring_at h2]
  unfold standsP succP
  simp [firstKey]
theorem succ_grid {a b : Nat} {p : Nat × Nat} (h : p ∈ grid a b) : succP a b p ∈ grid a b := by
  obtain ⟨i, j⟩ := p
  obtain ⟨h1, h2⟩ := mem_grid.mp h
  exact mem_grid.mpr ⟨Nat.mod_lt _ (by omega), Nat.mod_lt _ (by omega)⟩
theorem judge_whole {a b : Nat} (ha : 0 < a) (hb : 0 < b) : judge (ring a) (ring b) 0 0 ((grid a b).map some) = none := by
  refine judge_none (grid_nodup a b) (fun p hp => ?_) (mem_grid.mpr ⟨ha, hb⟩)
  obtain ⟨i, j⟩ := p
  obtain ⟨h1, h2⟩ := mem_grid.mp hp
  rw [ring_stands (p := (i, j)) h1 h2]
  exact decide_eq_true (succ_grid hp)
theorem judgeGo_first {ns ms : List Nd} {known : List (Nat × Nat)} : ∀ {ps : List (Nat × Nat)} {i j : Nat} {seen : List (Nat × Nat)} {q : Nat × Nat}, ps.Nodup → (∀ p ∈ ps, p ∉ seen) → ps[j]? = some q → standsP known (ndAt ns q.1) (ndAt ms q.2) = false →
    (∀ m p, m < j → ps[m]? = some p → standsP known (ndAt ns p.1) (ndAt ms p.2) = true) → judgeGo ns ms known i seen (ps.map some) = some (i + j)
  | [], _, _, _, _, _, _, h, _, _ => by simp at h
  | p :: ps, i, 0, seen, q, hn, hs, h, hq, _ => by
    have e : p = q := Option.some.inj h
    subst e
    rw [List.map_cons, judgeGo, if_neg (hs p (List.mem_cons_self ..)), if_neg (by rw [hq]; decide)]
    rfl
  | p :: ps, i, j + 1, seen, q, hn, hs, h, hq, hm => by
    rw [List.nodup_cons] at hn
    rw [List.map_cons, judgeGo, if_neg (hs p (List.mem_cons_self ..)), if_pos (hm 0 p (Nat.zero_lt_succ _) rfl)]
    rw [judgeGo_first (j := j) hn.2 (fun x hx z => ?_) h hq fun m x hm' hx => hm (m + 1) x (Nat.succ_lt_succ hm') hx]
    · congr 1
      omega
    · rcases List.mem_append.mp z with z | z
      · exact hs x (List.mem_cons_of_mem _ hx) z
      · rw [List.mem_singleton.mp z] at hx
        exact hn.1 hx
/-- the grid without its k-th pair -/
def fewer (a b k : Nat) : List (Nat × Nat) := (grid a b).take k ++ (grid a b).drop (k + 1)
theorem fewer_split {a b k : Nat} {r : Nat × Nat} (hr : (grid a b)[k]? = some r) : grid a b = (grid a b).take k ++ [r] ++ (grid a b).drop (k + 1) := by
  have hk := (List.getElem?_eq_some_iff.mp hr).1
  have e : (grid a b).drop k = r :: (grid a b).drop (k + 1) := by
    rw [List.drop_eq_getElem_cons hk]
    rw [List.getElem?_eq_getElem hk] at hr
    rw [Option.some.inj hr]
  have := (List.take_append_drop k (grid a b)).symm
  rw [e] at this
  rw [List.append_assoc]
  exact this
theorem fewer_facts {a b k : Nat} {r : Nat × Nat} (hr : (grid a b)[k]? = some r) : (fewer a b k).Nodup ∧ ∀ p, p ∈ fewer a b k ↔ p ∈ grid a b ∧ p ≠ r := by
  have hs := fewer_split hr
  have hn := grid_nodup a b
  rw [hs, List.append_assoc] at hn
  have hn' := (List.perm_middle (a := r) (l₁ := (grid a b).take k) (l₂ := (grid a b).drop (k + 1))).nodup_iff.mp hn
  rw [List.nodup_cons] at hn'
  refine ⟨hn'.2, fun p => ?_⟩
  constructor
  · intro h
    refine ⟨?_, fun z => hn'.1 (z ▸ h)⟩
    rcases List.mem_append.mp h with h | h
    · exact List.mem_of_mem_take h
    · exact List.mem_of_mem_drop h
  · rintro ⟨h1, h2⟩
    rw [hs] at h1
    simp only [List.mem_append, List.mem_singleton] at h1
    unfold fewer
    rw [List.mem_append]
    rcases h1 with (h1 | h1) | h1
    · exact .inl h1
    · exact absurd h1 h2
    · exact .inr h1
def predP (p : Nat × Nat) : Nat × Nat := ((p.1 + 39) % 40, (p.2 + 49) % 50)
theorem pred_facts {i j : Nat} (h1 : i < 40) (h2 : j < 50) : succP 40 50 (predP (i, j)) = (i, j) ∧ predP (i, j) ≠ (i, j) ∧ predP (i, j) ∈ grid 40 50 := by
  refine ⟨?_, fun z => ?_, mem_grid.mpr ⟨by omega, by omega⟩⟩
  · unfold succP predP
    simp only [Prod.mk.injEq]
    omega
  · unfold predP at z
    simp only [Prod.mk.injEq] at z
    omega
theorem succ_inj {i j x y : Nat} (_h1 : i < 40) (_h2 : j < 50) (h3 : x < 40) (h4 : y < 50) (h : succP 40 50 (x, y) = (i, j)) : (x, y) = predP (i, j) := by
  unfold succP at h
  unfold predP
  simp only [Prod.mk.injEq] at h ⊢
  omega
theorem idx_first {ps : List (Nat × Nat)} {q : Nat × Nat} (h : q ∈ ps) : ps[ps.idxOf q]? = some q ∧ ∀ m p, m < ps.idxOf q → ps[m]? = some p → p ≠ q := by
  have hl := List.idxOf_lt_length_of_mem h
  refine ⟨by rw [List.getElem?_eq_getElem hl, List.getElem_idxOf hl], fun m p hm hp z => ?_⟩
  subst z
  have hml := (List.getElem?_eq_some_iff.mp hp).1
  have := List.not_of_lt_findIdx (p := (· == p)) (xs := ps) (i := m) hm
  rw [List.getElem?_eq_getElem hml] at hp
  rw [Option.some.inj hp] at this
  simp at this
/-- without one pair: the first that doesn't stand is the one ahead of it -/
theorem judge_fewer {k : Nat} {r : Nat × Nat} (hr : (grid 40 50)[k]? = some r) : predP r ∈ fewer 40 50 k ∧ judge (ring 40) (ring 50) 0 0 ((fewer 40 50 k).map some) = some ((fewer 40 50 k).idxOf (predP r)) := by
  obtain ⟨hn, hm⟩ := fewer_facts hr
  obtain ⟨i, j⟩ := r
  obtain ⟨h1, h2⟩ := mem_grid.mp (List.mem_of_getElem? hr)
  obtain ⟨p1, p2, p3⟩ := pred_facts h1 h2
  have hp : predP (i, j) ∈ fewer 40 50 k := (hm _).mpr ⟨p3, p2⟩
  refine ⟨hp, ?_⟩
  obtain ⟨e1, e2⟩ := idx_first hp
  unfold judge
  rw [known_some, judgeGo_first (i := 0) hn (fun p _ z => by simp at z) e1 ?_ ?_]
  · show some (0 + _) = _
    rw [Nat.zero_add]
  · rw [ring_stands (by unfold predP; omega) (by unfold predP; omega), p1]
    exact decide_eq_false fun z => ((hm _).mp z).2 rfl
  · rintro m ⟨x, y⟩ hlt hx
    obtain ⟨hx1, hx2⟩ := (hm _).mp (List.mem_of_getElem? hx)
    obtain ⟨h3, h4⟩ := mem_grid.mp hx1
    rw [ring_stands h3 h4]
    refine decide_eq_true ((hm _).mpr ⟨succ_grid hx1, fun z => e2 m (x, y) hlt hx (succ_inj h1 h2 h3 h4 z)⟩)
end Ap
set_option Elab.async false
set_option maxRecDepth 100000
/-! Nested keys as data: what == tells of them. -/
namespace Ap
open PySem PySem.Spec PyProof.Rows L2
mutual
def dk : NestedKey → PyData
  | .none => .none
  | .num i => .int i
  | .text x => .str x
  | .tup ks => .tuple (dkAll ks)
def dkAll : List NestedKey → List PyData
  | [] => []
  | k :: ks => dk k :: dkAll ks
end
mutual
theorem dk_eqv : ∀ a b : NestedKey, PyData.eqv (dk a) (dk b) = decide (a = b)
  | .none, b => by cases b <;> simp [dk, PyData.eqv]
  | .num i, b => by
    cases b <;> simp [dk, PyData.eqv]
    exact PySem.W.beq_decide _ _
  | .text x, b => by
    cases b <;> simp [dk, PyData.eqv]
    exact PySem.W.beq_decide _ _
  | .tup ks, b => by
    cases b with
    | tup ls => 
      simp only [dk, PyData.eqv]
      rw [dkAll_eqv ks ls]
      exact decide_eq_decide.mpr ⟨fun e => by rw [e], fun e => by injection e⟩
    | none => simp [dk, PyData.eqv]
    | num i => simp [dk, PyData.eqv]
    | text x => simp [dk, PyData.eqv]
theorem dkAll_eqv : ∀ as bs : List NestedKey, PyData.eqvAll (dkAll as) (dkAll bs) = decide (as = bs)
  | [], [] => by simp [dkAll, PyData.eqvAll]
  | [], _ :: _ => by simp [dkAll, PyData.eqvAll]
  | _ :: _, [] => by simp [dkAll, PyData.eqvAll]
  | a :: as, b :: bs => by
    rw [dkAll, dkAll, PyData.eqvAll, dk_eqv a b, dkAll_eqv as bs, ← Bool.decide_and]
    exact decide_eq_decide.mpr (by rw [List.cons.injEq])
end
mutual
theorem KeyV.dp {K : PySem.W.Frag} {H : Hp} : ∀ (k : NestedKey) (v : V), KeyV H k v → Dp K H v (dk k)
  | .none, _, h => by cases h; rw [dk]; exact .non
  | .num i, _, h => by cases h; rw [dk]; exact .int i
  | .text x, _, h => by cases h; rw [dk]; exact .str x
  | .tup ks, _, h => by
    cases h with
    | tup h1 h2 =>
      rw [dk]
      exact .tup (SqT.of h1) (KeyAll.dp ks _ h2)
theorem KeyAll.dp {K : PySem.W.Frag} {H : Hp} : ∀ (ks : List NestedKey) (vs : List V), KeyAll H ks vs → DpAll K H vs (dkAll ks)
  | [], _, h => by cases h; rw [dkAll]; exact .nil
  | k :: ks, _, h => by
    cases h with
    | cons h1 h2 =>
      rw [dkAll]
      exact .cons (KeyV.dp k _ h1) (KeyAll.dp ks _ h2)
end
theorem dkAll_map {α : Type} (f : α → NestedKey) : ∀ xs : List α, dkAll (xs.map f) = xs.map fun x => dk (f x)
  | [] => rfl
  | x :: xs => by rw [List.map_cons, dkAll, dkAll_map f xs]; rfl
theorem dkAll_lay : ∀ ks : List NestedKey, (∀ k ∈ ks, (dk k).canLay0 = true) → PyData.canLayAll0 (dkAll ks) = true
  | [], _ => rfl
  | k :: ks, h => by
    rw [dkAll, PyData.canLayAll0, h k (List.mem_cons_self ..), dkAll_lay ks fun x hx => h x (List.mem_cons_of_mem _ hx)]
    rfl
theorem dkAll_depth {n : Nat} : ∀ ks : List NestedKey, (∀ k ∈ ks, (dk k).depth ≤ n) → PyData.depthAll (dkAll ks) ≤ n
  | [], _ => Nat.zero_le _
  | k :: ks, h => by
    rw [dkAll, PyData.depthAll]
    exact Nat.max_le.mpr ⟨h k (List.mem_cons_self ..), dkAll_depth ks fun x hx => h x (List.mem_cons_of_mem _ hx)⟩
/-- a list of keys -/
theorem shaped_keys {ks : List NestedKey} (h : ∀ k ∈ ks, (dk k).canLay0 = true ∧ (dk k).depth ≤ 8) : SeqAt.shaped (.list (dkAll ks)) = true := by
  unfold SeqAt.shaped
  have h1 := dkAll_lay ks fun k hk => (h k hk).1
  have h2 := dkAll_depth (n := 8) ks fun k hk => (h k hk).2
  rw [PyData.canLay0, h1, PyData.depth, decide_eq_true (by omega)]
  rfl
theorem shaped_key {k : NestedKey} (h : (dk k).canLay0 = true ∧ (dk k).depth ≤ 8) : SeqAt.shaped (dk k) = true := by
  unfold SeqAt.shaped
  rw [h.1, decide_eq_true (by omega)]
  rfl
theorem list_eqv (ks ls : List NestedKey) : PyData.eqv (.list (dkAll ks)) (.list (dkAll ls)) = decide (ks = ls) := by
  rw [PyData.eqv]
  exact dkAll_eqv ks ls
theorem lay_num (i : Int) : (dk (.num i)).canLay0 = true ∧ (dk (.num i)).depth ≤ 8 := ⟨rfl, Nat.zero_le _⟩
/-- a pair of numbers as a key -/
def pk (p : Nat × Nat) : NestedKey := .tup [kn p.1, kn p.2]
theorem pk_inj {p q : Nat × Nat} (h : pk p = pk q) : p = q := by
  obtain ⟨a, b⟩ := p
  obtain ⟨c, d⟩ := q
  simp [pk, kn] at h
  obtain ⟨h1, h2⟩ := h
  have e1 : a = c := by omega
  have e2 : b = d := by omega
  rw [e1, e2]
theorem lay_pair (p : Nat × Nat) : (dk (pk p)).canLay0 = true ∧ (dk (pk p)).depth ≤ 8 := by
  constructor
  · simp [pk, kn, dk, dkAll, PyData.canLay0, PyData.canLayAll0]
  · simp [pk, kn, dk, dkAll, PyData.depth, PyData.depthAll]
theorem kn_inj {a b : Nat} (h : kn a = kn b) : a = b := by
  simp [kn] at h
  omega
theorem map_inj {α β : Type} {f : α → β} (hf : ∀ a b, f a = f b → a = b) : ∀ {xs ys : List α}, xs.map f = ys.map f → xs = ys
  | [], [], _ => rfl
  | [], _ :: _, h => by simp at h
  | _ :: _, [], h => by simp at h
  | x :: xs, y :: ys, h => by
    simp only [List.map_cons, List.cons.injEq] at h
    rw [hf _ _ h.1, map_inj hf h.2]
/-- a list of numbers as data -/
def dNs (ns : List Nat) : PyData := .list (dkAll (ns.map kn))
theorem dNs_eqv (as bs : List Nat) : PyData.eqv (dNs as) (dNs bs) = decide (as = bs) := by
  unfold dNs
  rw [list_eqv]
  exact decide_eq_decide.mpr ⟨fun e => map_inj (fun a b => kn_inj) e, fun e => by rw [e]⟩
theorem dNs_shaped (ns : List Nat) : SeqAt.shaped (dNs ns) = true := shaped_keys fun k hk => by
  obtain ⟨n, _, rfl⟩ := List.mem_map.mp hk
  exact lay_num _
/-- a list of pairs as data -/
def dPs (ps : List (Nat × Nat)) : PyData := .list (dkAll (ps.map pk))
theorem dPs_eqv (as bs : List (Nat × Nat)) : PyData.eqv (dPs as) (dPs bs) = decide (as = bs) := by
  unfold dPs
  rw [list_eqv]
  exact decide_eq_decide.mpr ⟨fun e => map_inj (fun a b => pk_inj) e, fun e => by rw [e]⟩
theorem dPs_shaped (ps : List (Nat × Nat)) : SeqAt.shaped (dPs ps) = true := shaped_keys fun k hk => by
  obtain ⟨n, _, rfl⟩ := List.mem_map.mp hk
  exact lay_pair _
theorem dk_any (ps : List (Nat × Nat)) (p : Nat × Nat) : ((dkAll (ps.map pk)).any fun z => PyData.eqv z (dk (pk p))) = decide (p ∈ ps) := by
  rw [dkAll_map, List.any_map]
  by_cases h : p ∈ ps
  · rw [decide_eq_true h]
    exact List.any_eq_true.mpr ⟨p, h, by show PyData.eqv (dk (pk p)) (dk (pk p)) = true; rw [dk_eqv]; exact decide_eq_true rfl⟩
  · rw [decide_eq_false h]
    refine Bool.eq_false_iff.mpr fun z => ?_
    obtain ⟨q, hq, e⟩ := List.any_eq_true.mp z
    have e : PyData.eqv (dk (pk q)) (dk (pk p)) = true := e
    rw [dk_eqv] at e
    exact h (pk_inj (of_decide_eq_true e) ▸ hq)
section
variable {K : PySem.W.Frag} {H : Hp}
theorem dpAll_of {α : Type} {R : V → α → Prop} {f : α → NestedKey} (h : ∀ v x, R v x → KeyV H (f x) v) : ∀ {vs : List V} {xs : List α}, Paired R vs xs → DpAll K H vs (dkAll (xs.map f))
  | _, _, .nil => .nil
  | _, _, .cons q t => by
    rw [List.map_cons, dkAll]
    exact .cons (KeyV.dp _ _ (h _ _ q)) (dpAll_of h t)
theorem paired_self {α : Type} (f : α → V) : ∀ xs : List α, Paired (fun v x => v = f x) (xs.map f) xs
  | [] => .nil
  | x :: xs => .cons rfl (paired_self f xs)
theorem dp_nats {a : Addr} {ns : List Nat} (h : SqL K H a (ns.map fun n : Nat => V.int (n : Int))) : Dp K H (.ref a) (dNs ns) :=
  .lst h (dpAll_of (fun v x q => by rw [q]; exact .num _) (paired_self _ ns))
end
end Ap
set_option Elab.async false
set_option linter.all false
set_option maxRecDepth 100000
set_option maxHeartbeats 2000000
/-! The text by places; what stands in the abstract heap; a def that may be called; comprehensions that gather. -/
namespace Ap
open PySem PySem.Spec PyProof.Rows L2
def top (i : Nat) : Stmt := PySem.Challenge.pw_anchorpages_k47_whole_papers_of_equality.main.body.getD i (.Pass ⟨0, 0, 0, 0⟩)
abbrev s_are_signs : Stmt := top 5
abbrev s_is_tag : Stmt := top 6
abbrev s_is_from : Stmt := top 10
abbrev s_is_entry : Stmt := top 11
abbrev s_is_node : Stmt := top 12
abbrev s_require_graphs : Stmt := top 14
abbrev s_shifted : Stmt := top 16
abbrev s_joined : Stmt := top 17
abbrev s_numbered : Stmt := top 18
abbrev s_first_key : Stmt := top 19
abbrev s_next_key : Stmt := top 20
abbrev s_rounds_of : Stmt := top 21
abbrev s_first_unlike : Stmt := top 22
abbrev s_apart : Stmt := top 23
abbrev s_equal : Stmt := top 24
abbrev s_goals : Stmt := top 25
abbrev s_paper_of : Stmt := top 26
abbrev s_equal_goals : Stmt := top 27
abbrev s_is_pair : Stmt := top 28
abbrev s_stands : Stmt := top 29
abbrev s_judged : Stmt := top 30
abbrev s_law_cell_at : Stmt := top 32
abbrev s_law_well : Stmt := top 33
abbrev s_law_draw : Stmt := top 34
abbrev s_law_one : Stmt := top 35
abbrev s_law_node : Stmt := top 36
abbrev s_law_nodes : Stmt := top 37
abbrev s_law_starts : Stmt := top 39
abbrev s_law_go_on : Stmt := top 40
abbrev s_law_rounds : Stmt := top 41
abbrev s_law_shift : Stmt := top 43
abbrev s_law_side_by_side : Stmt := top 44
abbrev s_law_is_pair : Stmt := top 45
abbrev s_law_stands : Stmt := top 46
abbrev s_law_due : Stmt := top 47
abbrev s_law_like : Stmt := top 48
abbrev s_law_bent : Stmt := top 49
abbrev s_law_right : Stmt := top 50
abbrev s_law_great_right : Stmt := top 51
abbrev s_law : Stmt := top 52
abbrev s_init : Stmt := inClass (top 13) 0
/-! ### a def that may be called by its name -/
/-- a def of the module without defaults -/
structure Dn (K : PySem.W.Frag) (mg : Str → Option Value) (x : Str) (st : Stmt) : Prop where
  fn : ∃ f fd, FunD K x x (defArgs st) (defBody st) (defScope st) [] [] f fd ∧ mg x = some (.ref f)
structure Cl (P : Program) (w : World) (K : PySem.W.Frag) (mg : Str → Option Value) (base : Heap) (k : Nat) (x : Str) (sp : Sp) : Prop where
  ex : ∃ f, FnR P w K mg base CX0 k f sp ∧ mg x = some (.ref f) ∧ PySem.W.keepIn K (.ref f) = true
section
variable {P : Program} {w : World} {K : PySem.W.Frag} {mg : Str → Option Value} {base : Heap}
theorem fnR_ok {CX : CXT} {k : Nat} {f : Addr} {fd : FuncData} {ps : List Str} {sp : Sp} (F : FnOk P w K mg base CX k f fd ps sp) (b : Binds K fd ps []) : FnR P w K mg base CX k f sp :=
  by
  have G : FnR P w K mg base CX k f (fun vs H Q E => sp (vs ++ []) H Q E) := FnOk.raw F b .nil
  intro A outer s H us vs Q E hr e v h
  exact G A outer s H us vs Q E hr e v (by show sp (vs ++ []) H Q E; rw [List.append_nil]; exact h)
theorem cl_of {x : Str} {st : Stmt} {N ps : List Str} {k : Nat} {sp : Sp} (D : Dn K mg x st) (S : FnScope N ps (defScope st)) (len : ∀ vs H Q E, sp vs H Q E → vs.length = ps.length)
    (hb : ∀ (kV doc pm : Value) (an : Option Addr) (cdv ct : Value) (us : List Value), us.length = ps.length → bindArgs (PySem.W.fnOf x x (defArgs st) (defBody st) (defScope st) .none kV doc pm an cdv ct) ⟨us, []⟩ = pure (ps.zip us))
    (hbody : ∀ (f : Addr) (cdv : Value) (A : Around) (outer : List Env) (s : Shared) (H : Hp) (vs : List V) (Q : VK) (E : XK), Room k (A.deeper (envOfC x (defScope st) s.heap.objs.size f cdv)) → sp vs H Q E →
      ∃ t, PSs (cxOf CX0 P w K mg base N x (defScope st) f cdv A outer s H E).nox (defBody st) t ∧ t { nx := fun _ H' => Q .non H', rt := Q } (start N vs) H) : Cl P w K mg base (k + 1) x sp := by
  obtain ⟨f, fd, F, hm⟩ := D.fn
  have G : FnOk P w K mg base CX0 (k + 1) f fd ps sp := F.ok S len fun cdv A outer s H vs Q E hr h => by
    obtain ⟨t, h1, h2⟩ := hbody f cdv A outer s H vs Q E hr h
    exact ⟨t, h1.nox, h2⟩
  exact ⟨f, fnR_ok G (F.bindsN hb), hm, F.kp⟩
end
section
variable {X : Cx}
def tCl (sp : Sp) (t : TA) : TE := fun σ H Q => t σ H fun vs H1 => sp vs H1 Q E0
theorem pe_cl {k j : Nat} {x : Str} {sp : Sp} {p pos : Pos} {e : Expr} {es : List Expr} {t : TA} (c : Cl X.prog X.w X.K X.mg X.base k x sp) (hr : Room j X.A) (hk : k ≤ j) (hg : Gl X x) (ha : PA X (e :: es) t)
    (hdb : (x == ("__debug__" : Str)) = false := by decide) (he : starEach (e :: es) X.env = (false, eval e X.env) :: starEach es X.env := by rfl) (hpl : (backTo pos (starEach es X.env)).any (·.1) = false := by rfl) :
    PE X (.Call (.Name x p) (e :: es) [] pos) (tCl sp t) := by
  obtain ⟨f, F, hm, kp⟩ := c.ex
  refine ⟨fun pins s σ H Q I h => ?_⟩
  refine wpAny_Call_Name_kw (ld_glob I hg hm ?_ hdb)
  refine PySem.W.callWith_K (h₀ := X.base) I.ok.mod.kin kp (thn (ha.run pos pins s σ H _ I h) fun us s1 ⟨vs, H1, I1, r, q⟩ => ⟨I1.kIn, ?_⟩) he hpl
  exact wpAny_call (run_fnR F (hr.mono hk) pass0 I1 r q)
end
/-! ### heaps -/
theorem Ext.refl (H : Hp) : Ext H H := fun _ _ h => h
theorem Ext.trans {H H1 H2 : Hp} (a : Ext H H1) (b : Ext H1 H2) : Ext H H2 := fun c xs h => b c xs (a c xs h)
/-- what stood stands, but for ex -/
def Keep (ex : List Addr) (H H' : Hp) : Prop := ∀ b o, b ∉ ex → H b = some o → H' b = some o
theorem Keep.refl (ex : List Addr) (H : Hp) : Keep ex H H := fun _ _ _ h => h
theorem Keep.trans {ex : List Addr} {H H1 H2 : Hp} (a : Keep ex H H1) (b : Keep ex H1 H2) : Keep ex H H2 := fun c o n h => b c o n (a c o n h)
theorem Keep.mono {ex ex' : List Addr} {H H' : Hp} (k : Keep ex H H') (h : ∀ b ∈ ex, b ∈ ex') : Keep ex' H H' := fun c o n e => k c o (fun q => n (h c q)) e
theorem Keep.more {ex : List Addr} {H H' : Hp} (k : Keep [] H H') : Keep ex H H' := fun c o _ e => k c o List.not_mem_nil e
theorem Keep.at_ {H H' : Hp} {b : Addr} {o : HO} (k : Keep [] H H') (h : H b = some o) : H' b = some o := k b o List.not_mem_nil h
theorem Keep.at1 {w : Addr} {H H' : Hp} {b : Addr} {o : HO} (k : Keep [w] H H') (n : b ≠ w) (h : H b = some o) : H' b = some o := k b o (fun q => n (List.mem_singleton.mp q)) h
theorem Keep.new {ex : List Addr} {H0 H : Hp} {p : Addr} {o : HO} (k : Keep ex H0 H) (hp : H p = none) : Keep ex H0 (upd H p o) := fun b u n e => by
  rw [upd_ne (ne_of_none (k b u n e) hp)]
  exact k b u n e
theorem Keep.upd0 {ex : List Addr} {H0 H : Hp} {p : Addr} {o : HO} (k : Keep ex H0 H) (hp : H0 p = none) : Keep ex H0 (upd H p o) := fun b u n e => by
  rw [upd_ne (ne_of_none e hp)]
  exact k b u n e
theorem Keep.updm {ex : List Addr} {H0 H : Hp} {p : Addr} {o : HO} (k : Keep ex H0 H) (hp : p ∈ ex) : Keep ex H0 (upd H p o) := fun b u n e => by
  rw [upd_ne (fun q => n (by subst q; exact hp))]
  exact k b u n e
theorem Keep.drop {ex : List Addr} {H0 H : Hp} {p : Addr} (k : Keep (p :: ex) H0 H) (hp : H0 p = none) : Keep ex H0 H := fun b u n e => k b u (fun q => by
  rcases List.mem_cons.mp q with rfl | q
  · rw [hp] at e; cases e
  · exact n q) e
theorem Keep.ext {ex : List Addr} {H H' : Hp} (k : Keep ex H H') (h : ∀ a ∈ ex, ∀ xs, H a ≠ some (.tup xs)) : Ext H H' := fun b xs e => k b _ (fun q => h b q xs e) e
theorem Keep.ext0 {H H' : Hp} (k : Keep [] H H') : Ext H H' := fun _ _ e => k.at_ e
theorem Keep.ext1 {w : Addr} {H H' : Hp} {ys : List V} (k : Keep [w] H H') (h : H w = some (.lst ys)) : Ext H H' := k.ext fun a q xs e => by
  rw [List.mem_singleton.mp q, h] at e
  cases e
theorem keep_new {ex : List Addr} {H : Hp} {p : Addr} {o : HO} (hp : H p = none) : Keep ex H (upd H p o) := (Keep.refl ex H).new hp
theorem ext_new {H : Hp} {p : Addr} {o : HO} (hp : H p = none) : Ext H (upd H p o) := (keep_new (ex := []) hp).ext0
theorem ext_updl {H : Hp} {p : Addr} {o u : HO} (h : H p = some u) (hu : ∀ xs, u ≠ .tup xs) : Ext H (upd H p o) := fun b xs e => by
  rw [upd_ne (fun q => by subst q; rw [h] at e; exact hu xs (Option.some.inj e))]
  exact e
/-! ### numbers, pairs, nodes, graphs -/
abbrev nV (n : Nat) : V := .int (n : Int)
def PairV (H : Hp) (v : V) (p : Nat × Nat) : Prop := ∃ a, v = .ref a ∧ H a = some (.tup [nV p.1, nV p.2])
def Cont (H : Hp) (v : V) : Nd → Prop
  | .sc _ x => v = .str x
  | .sq _ xs => ∃ a, v = .ref a ∧ H a = some (.tup (xs.map nV))
  | .mp _ es => ∃ a vs, v = .ref a ∧ H a = some (.tup vs) ∧ Paired (PairV H) vs es
def NdV (H : Hp) (v : V) (n : Nd) : Prop := ∃ a c, v = .ref a ∧ H a = some (.tup [.str n.kind, .str n.tag, c]) ∧ Cont H c n
theorem PairV.ext {H H' : Hp} {v : V} {p : Nat × Nat} (e : Ext H H') (h : PairV H v p) : PairV H' v p := by
  obtain ⟨a, h1, h2⟩ := h
  exact ⟨a, h1, e _ _ h2⟩
theorem pairs_ext {H H' : Hp} (e : Ext H H') {vs : List V} {ps : List (Nat × Nat)} (h : Paired (PairV H) vs ps) : Paired (PairV H') vs ps := Paired.mapP h fun _ _ x => x.ext e
theorem Cont.ext {H H' : Hp} {v : V} (e : Ext H H') : ∀ {n : Nd}, Cont H v n → Cont H' v n
  | .sc _ _, h => h
  | .sq _ _, h => by obtain ⟨a, h1, h2⟩ := h; exact ⟨a, h1, e _ _ h2⟩
  | .mp _ _, h => by obtain ⟨a, vs, h1, h2, h3⟩ := h; exact ⟨a, vs, h1, e _ _ h2, pairs_ext e h3⟩
theorem NdV.ext {H H' : Hp} {v : V} {n : Nd} (e : Ext H H') (h : NdV H v n) : NdV H' v n := by
  obtain ⟨a, c, h1, h2, h3⟩ := h
  exact ⟨a, c, h1, e _ _ h2, h3.ext e⟩
theorem nds_ext {H H' : Hp} (e : Ext H H') {vs : List V} {ns : List Nd} (h : Paired (NdV H) vs ns) : Paired (NdV H') vs ns := Paired.mapP h fun _ _ x => x.ext e
/-- the fields of a graph -/
def gfs (t : Addr) (n : Nat) : List (Str × V) := putF "top" (nV n) (putF "nodes" (.ref t) [])
theorem top_ne : ¬ ("nodes" : Str) = "top" := by decide +kernel
theorem gfs_nodes (t : Addr) (n : Nat) : (gfs t n).lookup ("nodes" : Str) = some (.ref t) := by
  unfold gfs
  rw [lookup_putF, if_neg top_ne, lookup_putF, if_pos rfl]
theorem gfs_top (t : Addr) (n : Nat) : (gfs t n).lookup ("top" : Str) = some (nV n) := by
  unfold gfs
  rw [lookup_putF, if_pos rfl]
/-- a graph stands at g -/
def GrAt (C : Addr) (H : Hp) (g : Addr) (ns : List Nd) (n : Nat) : Prop := ∃ dx t vs, H g = some (.ins C dx (gfs t n)) ∧ H t = some (.tup vs) ∧ Paired (NdV H) vs ns
/-- what the module's top has left, beside the defs -/
structure Txt (K : PySem.W.Frag) (mg : Str → Option Value) : Prop where
  all_ : mg "all" = none
  any_ : mg "any" = none
  list_ : mg "list" = none
  tuple_ : mg "tuple" = none
  dict_ : mg "dict" = none
  len_ : mg "len" = none
  isi_ : mg "isinstance" = none
  str_ : mg "str" = none
  int_ : mg "int" = none
  bool_ : mg "bool" = none
  zip_ : mg "zip" = none
  range_ : mg "range" = none
  sorted_ : mg "sorted" = none
  enum_ : mg "enumerate" = none
/-- the class Graph at C -/
structure GC (K : PySem.W.Frag) (mg : Str → Option Value) (C : Addr) : Prop where
  mg_ : mg "Graph" = some (.ref C)
  cl : Cls K C
  nN : NoAttr K C "nodes"
  nT : NoAttr K C "top"
  ha : PySem.W.findIn K (.ref C) "__class__" = some (some (.builtin "object.__class__"))
  hn : PySem.W.specialIn K (.builtin "object.__class__") "__get__" = some (some (.builtin "getset_descriptor.__get__"))
  htk : PySem.W.takesIn K (.builtin "object.__class__") = some true
  hm : PySem.W.mroIn K C (.type "object") = some true
  me : PySem.W.kitOne K (.ref C) (.ref C) = some true
  noL : PySem.W.kitOne K (.ref C) (.type "list") = some false
  noT : PySem.W.kitOne K (.ref C) (.type "tuple") = some false
/-! ### lists gathered by a comprehension -/
theorem yes_ {σ : L2.St} {H : Hp} {A B : Hp → Prop} (h : A H) : tYes σ H fun b H3 => if b = true then A H3 else B H3 := by
  show if true = true then A H else B H
  exact iteT h
theorem filterMap_snoc {α β : Type} (f : α → Option β) (xs : List α) (x : α) : (xs ++ [x]).filterMap f = xs.filterMap f ++ (f x).toList := by
  rw [List.filterMap_append]
  cases h : f x <;> simp [h]
theorem take_snoc {α : Type} {xs : List α} {i : Nat} {x : α} (h : xs[i]? = some x) : xs.take (i + 1) = xs.take i ++ [x] := by
  rw [List.take_add_one, h]
  rfl
theorem paired_app {α β : Type} {F : α → β → Prop} {x : α} {y : β} (h : F x y) : ∀ {xs : List α} {ys : List β}, Paired F xs ys → Paired F (xs ++ [x]) (ys ++ [y])
  | _, _, .nil => .cons h .nil
  | _, _, .cons q t => .cons q (paired_app h t)
theorem fm_some {α β : Type} (f : α → β) : ∀ xs : List α, xs.filterMap (fun a => some (f a)) = xs.map f
  | [] => rfl
  | x :: xs => by rw [List.filterMap_cons, fm_some f xs]; rfl
theorem paired_eq {α : Type} {f : α → V} : ∀ {vs : List V} {xs : List α}, Paired (fun v x => v = f x) vs xs → vs = xs.map f
  | _, _, .nil => rfl
  | _, _, .cons q t => by rw [q, paired_eq t]; rfl
theorem paired_len {α β : Type} {F : α → β → Prop} {xs : List α} {ys : List β} (h : Paired F xs ys) : xs.length = ys.length := Paired.length h
theorem paired_get {α β : Type} {F : α → β → Prop} : ∀ {xs : List α} {ys : List β}, Paired F xs ys → ∀ {i : Nat} {x : α}, xs[i]? = some x → ∃ y, ys[i]? = some y ∧ F x y
  | _, _, .nil, _, _, e => by simp at e
  | _, _, .cons q t, 0, _, e => ⟨_, rfl, by have := Option.some.inj e; subst this; exact q⟩
  | _, _, .cons q t, i + 1, x, e => paired_get t (i := i) (x := x) e
theorem paired_get' {α β : Type} {F : α → β → Prop} : ∀ {xs : List α} {ys : List β}, Paired F xs ys → ∀ {i : Nat} {y : β}, ys[i]? = some y → ∃ x, xs[i]? = some x ∧ F x y
  | _, _, .nil, _, _, e => by simp at e
  | _, _, .cons q t, 0, _, e => ⟨_, rfl, by have := Option.some.inj e; subst this; exact q⟩
  | _, _, .cons q t, i + 1, x, e => paired_get' t (i := i) (y := x) e
theorem map_get {α β : Type} {f : α → β} {xs : List α} {i : Nat} {y : β} (e : (xs.map f)[i]? = some y) : ∃ x, xs[i]? = some x ∧ y = f x := by
  rw [List.getElem?_map] at e
  cases h : xs[i]? with
  | none => rw [h] at e; cases e
  | some x => rw [h] at e; exact ⟨x, rfl, (Option.some.inj e).symm⟩
theorem small_line {n : Nat} (h : n ≤ 100000) : n < sizeLine := Nat.lt_of_le_of_lt h (by decide)
theorem small_line' {n : Nat} (h : n ≤ 100000) : n ≤ sizeLine := Nat.le_of_lt (small_line h)
theorem paired_cat {α β : Type} {F : α → β → Prop} {zs : List α} {us : List β} (h : Paired F zs us) : ∀ {xs : List α} {ys : List β}, Paired F xs ys → Paired F (xs ++ zs) (ys ++ us)
  | _, _, .nil => h
  | _, _, .cons q t => .cons q (paired_cat h t)
/-- the list at D as far as it is made after i turns: ys tell what f gave of the first i of xs; H1 is the heap ahead of it -/
def Gath {α β : Type} (H1 : Hp) (ex : List Addr) (J : Hp → Prop) (D : Addr) (xs : List α) (f : α → Option β) (R : Hp → V → β → Prop) (i : Nat) (H : Hp) : Prop :=
  Keep ex H1 H ∧ J H ∧ ∃ ys, H D = some (.lst ys) ∧ Paired (R H) ys ((xs.take i).filterMap f)
structure GX {β : Type} (ex : List Addr) (J : Hp → Prop) (D : Addr) (R : Hp → V → β → Prop) : Prop where
  nD : D ∉ ex
  tup : ∀ H a xs, J H → a ∈ ex → H a ≠ some (.tup xs)
  jD : ∀ H o, J H → J (upd H D (.lst o))
  stay : ∀ H H' v b, Keep (D :: ex) H H' → Ext H H' → R H v b → R H' v b
abbrev J0 : Hp → Prop := fun _ => True
/-- nothing but the new list changes -/
theorem gx0 {β : Type} {D : Addr} {R : Hp → V → β → Prop} (h : ∀ H H' v b, Keep [D] H H' → Ext H H' → R H v b → R H' v b) : GX [] J0 D R :=
  ⟨List.not_mem_nil, fun _ _ _ _ q => (List.not_mem_nil q).elim, fun _ _ _ => trivial, h⟩
theorem gx_flat {β : Type} {D : Addr} {R : V → β → Prop} : GX [] J0 D (fun _ => R) := gx0 fun _ _ _ _ _ _ r => r
section
variable {α β : Type} {H1 H H' : Hp} {ex : List Addr} {J : Hp → Prop} {D : Addr} {xs : List α} {f : α → Option β} {R : Hp → V → β → Prop} {i : Nat} {a : α}
theorem gath0 (hD : H1 D = none) (j : J (upd H1 D (.lst []))) : Gath H1 ex J D xs f R 0 (upd H1 D (.lst [])) := ⟨keep_new hD, j, [], upd_same, .nil⟩
theorem Gath.keep (p : Gath H1 ex J D xs f R i H) : Keep ex H1 H := p.1
theorem Gath.yes (p : Gath H1 ex J D xs f R i H) (G : GX ex J D R) (h1 : H1 D = none) (ea : xs[i]? = some a) (hz : xs.length < sizeLine) (k : Keep ex H H') (j : J H') {y : V} {z : β} (hf : f a = some z) (hr : R H' y z) :
    ∃ acc, H' D = some (.lst acc) ∧ acc.length < sizeLine ∧ Gath H1 ex J D xs f R (i + 1) (upd H' D (.lst (acc ++ [y]))) := by
  obtain ⟨k0, j0, ys, hD, hp⟩ := p
  have hl := paired_len hp
  have hi := (List.getElem?_eq_some_iff.mp ea).1
  have hl2 : ((xs.take i).filterMap f).length ≤ i := Nat.le_trans (List.length_filterMap_le _ _) (by rw [List.length_take]; omega)
  have e1 : Ext H H' := k.ext fun a q xs => G.tup H a xs j0 q
  have h4 : H' D = some (.lst ys) := k D _ G.nD hD
  have e2 : Ext H' (upd H' D (.lst (ys ++ [y]))) := ext_updl h4 (by intro xs z; cases z)
  have k2 : Keep (D :: ex) H' (upd H' D (.lst (ys ++ [y]))) := (Keep.refl _ _).updm List.mem_cons_self
  have k1 : Keep (D :: ex) H H' := k.mono fun b q => List.mem_cons_of_mem _ q
  refine ⟨ys, h4, by omega, (k0.trans k).upd0 h1, G.jD _ _ j, _, upd_same, ?_⟩
  rw [take_snoc ea, filterMap_snoc, hf]
  exact paired_app (G.stay _ _ _ _ k2 e2 hr) (Paired.mapP hp fun v b h => G.stay _ _ _ _ k2 e2 (G.stay _ _ _ _ k1 e1 h))
theorem Gath.no (p : Gath H1 ex J D xs f R i H) (G : GX ex J D R) (ea : xs[i]? = some a) (k : Keep ex H H') (j : J H') (hf : f a = none) : Gath H1 ex J D xs f R (i + 1) H' := by
  obtain ⟨k0, j0, ys, hD, hp⟩ := p
  have e1 : Ext H H' := k.ext fun a q xs => G.tup H a xs j0 q
  have k1 : Keep (D :: ex) H H' := k.mono fun b q => List.mem_cons_of_mem _ q
  refine ⟨k0.trans k, j, ys, k D _ G.nD hD, ?_⟩
  rw [take_snoc ea, filterMap_snoc, hf]
  show Paired _ _ (_ ++ [])
  rw [List.append_nil]
  exact Paired.mapP hp fun v b h => G.stay _ _ _ _ k1 e1 h
theorem Gath.all (p : Gath H1 ex J D xs f R i H) (hi : i = xs.length) : Keep ex H1 H ∧ J H ∧ ∃ ys, H D = some (.lst ys) ∧ Paired (R H) ys (xs.filterMap f) := by
  obtain ⟨k0, j0, ys, hD, hp⟩ := p
  rw [List.take_of_length_le (by omega)] at hp
  exact ⟨k0, j0, ys, hD, hp⟩
end
end Ap
namespace Ap
open PySem PySem.Spec PyProof.Rows L2
/-! ### rules whose reading names the written part by a name of its own (within comprehensions) -/
section
variable {X : Cx} {K : PySem.W.Frag}
theorem kLen (h : X.K = K) : CallR X (.builtin "len") (rLen K) := by subst h; exact call_len
theorem kIsi (h : X.K = K) : CallR X (.builtin "isinstance") (rIsi K) := by subst h; exact call_isi
theorem kAll (h : X.K = K) (hc : X.calm = true) : CallR X (.builtin "all") (rAll K) := by subst h; exact cr_all hc
theorem kAny (h : X.K = K) (hc : X.calm = true) : CallR X (.builtin "any") (rAny K) := by subst h; exact cr_any hc
def rTupOf (K : PySem.W.Frag) : List V → Hp → VK → Prop := fun xs H Q => ∃ p ys, xs = [.ref p] ∧ ((SqL K H p ys ∧ ∀ l, H l = none → Q (.ref l) (upd H l (.tup ys))) ∨ (SqT K H p ys ∧ Q (.ref p) H))
theorem kTupOf (h : X.K = K) : CallR X (.type "tuple") (rTupOf K) := by subst h; exact call_tuple_of
theorem kIxL (h : X.K = K) : IxR X (rIxL K) := by subst h; exact ix_list
theorem kIxT (h : X.K = K) : IxR X (rIxT K) := by subst h; exact ix_tup
theorem kIxS (h : X.K = K) : IxR X (rIx K) := by subst h; exact ix_seq
theorem kEqD (h : X.K = K) (hu : X.A.units + 64 < cLine) : OpR X (compareOp .Eq) (rEqD K) := by subst h; exact op_eqD hu
theorem kNotInD (h : X.K = K) (hu : X.A.units + 65 < cLine) : OpR X (compareOp .NotIn) (rNotInD K) := by subst h; exact op_notInD hu
theorem kFld (h : X.K = K) {e : Expr} {ta : TE} {f : Str} {pos : Pos} (he : PE X e ta) (hb : attributeBase e f X.env (eval e X.env) = eval e X.env) : PE X (.Attribute e f pos) (tFld K ta f) := by subst h; exact pe_fld he hb
theorem kTup (h : X.K = K) {tg l : Expr} {tl : TE} (hl : PE X l tl) : PI X tg l (iTup K tl) := by subst h; exact pi_tup hl
theorem kList (h : X.K = K) {tg l : Expr} {tl : TE} (hl : PE X l tl) : PI X tg l (iList K tl) := by subst h; exact pi_list hl
theorem kZipN (h : X.K = K) {e e2 : Expr} {ta : TA} {x : Str} {p pos tpos : Pos} (hg : Gl X "zip") (hm : X.mg "zip" = none) (ha : PA X [e, e2] ta)
    (hs : starEach [e, e2] X.env = (false, eval e X.env) :: starEach [e2] X.env := by rfl) (hpl : (backTo pos (starEach [e2] X.env)).any (·.1) = false := by rfl) :
    PI X (.Name x tpos) (.Call (.Name "zip" p) [e, e2] [] pos) (iZipN K ta) := by subst h; exact pi_zipN hg hm ha hs hpl
end
end Ap
set_option Elab.async false
set_option linter.all false
set_option maxRecDepth 100000
set_option maxHeartbeats 4000000
namespace Ap
open PySem PySem.Spec PyProof.Rows L2
abbrev N_are_signs : List Str := ["text", "signs", "sign"]
theorem sc_are_signs : FnScope N_are_signs ["text", "signs"] (defScope s_are_signs) := ⟨rfl, rfl, rfl, by decide +kernel, rfl, by decide +kernel, by decide +kernel⟩

abbrev N_is_tag : List Str := ["thing"]
theorem sc_is_tag : FnScope N_is_tag ["thing"] (defScope s_is_tag) := ⟨rfl, rfl, rfl, by decide +kernel, rfl, by decide +kernel, by decide +kernel⟩

def spSigns : Sp := fun vs H Q _ => ∃ t s : Str, vs = [.str t, .str s] ∧ ¬ t = "" ∧ t.cps.size < sizeLine ∧ (∀ c ∈ t.cps.toList, c ∈ s.cps.toList) ∧ ∀ H', Keep [] H H' → Q (.bl true) H'
section
variable {P : Program} {w : World} {K : PySem.W.Frag} {mg : Str → Option Value} {base : Heap}
theorem bl_list : ∀ {ys : List V} {bs : List Bool}, Paired (fun (v : V) (b : Bool) => v = .bl b) ys bs → ys = bs.map V.bl := fun h => paired_eq h
theorem w_are_signs (T : Txt K mg) (D : Dn K mg "are_signs" s_are_signs) : Cl P w K mg base 1 "are_signs" spSigns := by
  refine cl_of D sc_are_signs (fun vs H Q E h => ?_) (fun _ _ _ _ _ _ us hl => match us, hl with | [_, _], _ => rfl) fun f cdv A outer s H vs Q E hr h => ?_
  · obtain ⟨t, s, rfl, _⟩ := h
    rfl
  obtain ⟨t, s, rfl, hne, hz, hs, hQ⟩ := h
  refine ⟨_, PSs.nox (pss_one (ps_ret (pe_and (pe_cmpR op_ne (pv 0) pe_str (nomark _)) (pe_one (pe_callB (cr_all rfl) (by rfl) T.all_ PyProof.Rows.boot_all (pa_cons (pe_lc (own := [("sign", 2)]) (g := (gName 2)) (tt := tYes) rfl sc_are_signs.nd (pi_str (pv 0)) (blkOk_by (own := [("sign", 2)]) (N := N_are_signs) (sc := (defScope s_are_signs)) (by decide +kernel)) (fun _ _ _ _ _ => (pg_name (i := 2) sc_are_signs.nd rfl (Or.inl rfl))) (fun _ _ _ _ _ => pts_nil) (fun _ _ _ _ _ => (pe_cmpR op_in_sign (pv 2) (pv 1) (by rfl)))) pa_nil)))))), ?_⟩
  refine ⟨_, rfl, rfl, _, rfl, ?_⟩
  rw [decide_eq_false (fun e => hne (V.str.inj e))]
  refine iteT ?_
  refine ⟨_, rfl, t, rfl, fun D hD => ?_⟩
  refine lc_it walk_str (Gath H [] J0 D t.cps.toList (fun _ => some true) (fun _ v b => v = .bl b)) (gath0 hD trivial) (fun _ _ _ _ => trivial) ?_ ?_
  · rintro i x H2 H3 hi p ⟨rfl, c, hc, rfl⟩
    refine ⟨rfl, yes_ ?_⟩
    refine ⟨_, rfl, _, rfl, c, s, rfl, rfl, ?_⟩
    have hc' : t.cps.toList[i]? = some c := by rw [← hc]; exact Array.getElem?_toList
    refine p.yes gx_flat hD hc' (by rw [Array.length_toList]; exact hz) (Keep.refl _ _) trivial rfl ?_
    rw [decide_eq_true (hs c (List.mem_of_getElem? hc'))]
  · intro H2 p
    obtain ⟨k, _, ys, hy, hp⟩ := p.all (by rw [Array.length_toList])
    rw [fm_some (fun _ => true)] at hp
    rw [bl_list hp] at hy
    refine ⟨D, _, rfl, SqL.of hy, ?_⟩
    have e : (t.cps.toList.map fun _ => true).all id = true := by simp
    rw [e]
    exact hQ _ k
/-- the six tags -/
def Tag (z : Str) : Prop := z = "!!str" ∨ z = "!x" ∨ z = "!!seq" ∨ z = "!s" ∨ z = "!!map" ∨ z = "!m"
def signs : Str := "abcdefghijklmnopqrstuvwxyzABCDEFGHIJKLMNOPQRSTUVWXYZ0123456789-#;/?:@&=+$_.~*'()"
def spTag : Sp := fun vs H Q _ => ∃ z : Str, vs = [.str z] ∧ Tag z ∧ ∀ H', Keep [] H H' → Q (.bl true) H'
theorem signs_of : ∀ t : Str, t = "str" ∨ t = "x" ∨ t = "seq" ∨ t = "s" ∨ t = "map" ∨ t = "m" → ¬ t = "" ∧ t.cps.size < sizeLine ∧ ∀ c ∈ t.cps.toList, c ∈ signs.cps.toList := by
  rintro t (rfl | rfl | rfl | rfl | rfl | rfl) <;> exact ⟨by decide +kernel, by decide +kernel, by decide +kernel⟩
theorem w_is_tag (T : Txt K mg) (mTag : ∃ t, mg "TAG_SIGNS" = some (.str signs t)) (c_are_signs : Cl P w K mg base 1 "are_signs" spSigns) (D : Dn K mg "is_tag" s_is_tag) : Cl P w K mg base 2 "is_tag" spTag := by
  obtain ⟨tk, mTag⟩ := mTag
  refine cl_of D sc_is_tag (fun vs H Q E h => ?_) (fun _ _ _ _ _ _ us hl => match us, hl with | [_], _ => rfl) fun f cdv A outer s H vs Q E hr h => ?_
  · obtain ⟨t, rfl, _⟩ := h
    rfl
  obtain ⟨z, rfl, ht, hQ⟩ := h
  refine ⟨_, PSs.nox (pss_cons (ps_if (PW.pt (pw_or (pt_not (pt_val (pe_callB call_isi (by rfl) T.isi_ PyProof.Rows.boot_isinstance (pa_cons (pv 0) (pa_cons (pe_bltn (v := .ty "str") (by rfl) T.str_ PyProof.Rows.boot_str rfl) pa_nil))))) (pw_or1 (pt_not (pt_val (pe_m1 PySem.F.slot_str_startswith PySem.F.type_str_startswith mt_startswith (pv 0) pe_str)))))) (pss_one (ps_ret pe_bl)) pss_nil) (pss_one (ps_ret (pe_cl c_are_signs hr (by decide) rfl (pa_cons (pe_ifExp (pt_val (pe_m1 PySem.F.slot_str_startswith PySem.F.type_str_startswith mt_startswith (pv 0) pe_str)) (pe_slice sl_str (pv 0) (po_some pe_int) po_none) (pe_slice sl_str (pv 0) (po_some pe_int) po_none)) (pa_cons (pe_glob (v := .str signs) rfl mTag ⟨_, rfl⟩) pa_nil)))))), ?_⟩
  refine ⟨_, rfl, V.str z, .ty "str", .type "str", .type "str", true, rfl, .ty "str", .base (.str z), kit_ty (by decide +kernel), _, rfl, ?_⟩
  refine iteF ?_
  refine ⟨_, rfl, ⟨_, rfl⟩, z, "!", rfl, rfl, _, rfl, ?_⟩
  rw [show Txt.startswith z "!" = true by rcases ht with rfl | rfl | rfl | rfl | rfl | rfl <;> decide +kernel]
  refine iteF ?_
  have key : ∀ t : Str, (t = "str" ∨ t = "x" ∨ t = "seq" ∨ t = "s" ∨ t = "map" ∨ t = "m") → spSigns [.str t, .str signs] H Q E0 := fun t e => by
    obtain ⟨h1, h2, h3⟩ := signs_of t e
    exact ⟨t, signs, rfl, h1, h2, h3, hQ⟩
  refine ⟨_, rfl, ⟨_, rfl⟩, z, "!!", rfl, rfl, _, rfl, ?_⟩
  rcases ht with rfl | rfl | rfl | rfl | rfl | rfl
  · rw [show Txt.startswith "!!str" "!!" = true by decide +kernel]
    refine iteT ⟨_, rfl, _, rfl, _, rfl, by decide +kernel, ?_⟩
    rw [show cutS "!!str" (some 2) none = "str" by decide +kernel]
    exact key "str" (.inl rfl)
  · rw [show Txt.startswith "!x" "!!" = false by decide +kernel]
    refine iteF ⟨_, rfl, _, rfl, _, rfl, by decide +kernel, ?_⟩
    rw [show cutS "!x" (some 1) none = "x" by decide +kernel]
    exact key "x" (.inr (.inl rfl))
  · rw [show Txt.startswith "!!seq" "!!" = true by decide +kernel]
    refine iteT ⟨_, rfl, _, rfl, _, rfl, by decide +kernel, ?_⟩
    rw [show cutS "!!seq" (some 2) none = "seq" by decide +kernel]
    exact key "seq" (.inr (.inr (.inl rfl)))
  · rw [show Txt.startswith "!s" "!!" = false by decide +kernel]
    refine iteF ⟨_, rfl, _, rfl, _, rfl, by decide +kernel, ?_⟩
    rw [show cutS "!s" (some 1) none = "s" by decide +kernel]
    exact key "s" (.inr (.inr (.inr (.inl rfl))))
  · rw [show Txt.startswith "!!map" "!!" = true by decide +kernel]
    refine iteT ⟨_, rfl, _, rfl, _, rfl, by decide +kernel, ?_⟩
    rw [show cutS "!!map" (some 2) none = "map" by decide +kernel]
    exact key "map" (.inr (.inr (.inr (.inr (.inl rfl)))))
  · rw [show Txt.startswith "!m" "!!" = false by decide +kernel]
    refine iteF ⟨_, rfl, _, rfl, _, rfl, by decide +kernel, ?_⟩
    rw [show cutS "!m" (some 1) none = "m" by decide +kernel]
    exact key "m" (.inr (.inr (.inr (.inr (.inr rfl)))))
end
end Ap
set_option Elab.async false
set_option linter.all false
set_option maxRecDepth 100000
set_option maxHeartbeats 4000000
namespace Ap
open PySem PySem.Spec PyProof.Rows L2
abbrev N_is_from : List Str := ["value", "least", "most"]
theorem sc_is_from : FnScope N_is_from ["value", "least", "most"] (defScope s_is_from) := ⟨rfl, rfl, rfl, by decide +kernel, rfl, by decide +kernel, by decide +kernel⟩

abbrev N_is_entry : List Str := ["value", "many", "one"]
theorem sc_is_entry : FnScope N_is_entry ["value", "many"] (defScope s_is_entry) := ⟨rfl, rfl, rfl, by decide +kernel, rfl, by decide +kernel, by decide +kernel⟩

abbrev N_is_node : List Str := ["value", "many", "kind", "tag", "content", "one"]
theorem sc_is_node : FnScope N_is_node ["value", "many"] (defScope s_is_node) := ⟨rfl, rfl, rfl, by decide +kernel, rfl, by decide +kernel, by decide +kernel⟩

def fromB (v : V) (a b : Int) : Bool := match v with
  | .int i => decide (a ≤ i) && decide (i ≤ b)
  | _ => false
inductive Scal : V → Prop
  | int (i : Int) : Scal (.int i)
  | bl (b : Bool) : Scal (.bl b)
  | str (x : Str) : Scal (.str x)
def spFrom : Sp := fun vs H Q _ => ∃ v a b, vs = [v, .int a, .int b] ∧ Scal v ∧ Q (.bl (fromB v a b)) H
def spEntry : Sp := fun vs H Q _ => ∃ (v : V) (p : Nat × Nat) (m : Nat), vs = [v, nV m] ∧ PairV H v p ∧ p.1 < m ∧ p.2 < m ∧ ∀ H', Keep [] H H' → Q (.bl true) H'
/-- a node that stands in a graph of m nodes -/
def NdOk (m : Nat) (n : Nd) : Prop := n.below m ∧ Tag n.tag ∧ n.len ≤ 4
def spNode : Sp := fun vs H Q _ => ∃ (v : V) (n : Nd) (m : Nat), vs = [v, nV m] ∧ NdV H v n ∧ NdOk m n ∧ ∀ H', Keep [] H H' → Q (.bl true) H'
section
variable {P : Program} {w : World} {K : PySem.W.Frag} {mg : Str → Option Value} {base : Heap}
theorem fromB_nat {i m : Nat} (h : i < m) : fromB (nV i) 0 ((m : Int) - 1) = true := by
  show (decide ((0 : Int) ≤ (i : Int)) && decide ((i : Int) ≤ (m : Int) - 1)) = true
  rw [decide_eq_true (by omega), decide_eq_true (by omega)]
  rfl
theorem w_is_from (T : Txt K mg) (D : Dn K mg "is_from" s_is_from) : Cl P w K mg base 1 "is_from" spFrom := by
  refine cl_of D sc_is_from (fun vs H Q E h => ?_) (fun _ _ _ _ _ _ us hl => match us, hl with | [_, _, _], _ => rfl) fun f cdv A outer s H vs Q E hr h => ?_
  · obtain ⟨v, a, b, rfl, _⟩ := h
    rfl
  obtain ⟨v, a, b, rfl, hv, hQ⟩ := h
  refine ⟨_, PSs.nox (pss_one (ps_ret (pe_and (pe_callB call_isi (by rfl) T.isi_ PyProof.Rows.boot_isinstance (pa_cons (pv 0) (pa_cons (pe_bltn (v := .ty "int") (by rfl) T.int_ PyProof.Rows.boot_int rfl) pa_nil))) (pe_and (pe_not (pe_callB call_isi (by rfl) T.isi_ PyProof.Rows.boot_isinstance (pa_cons (pv 0) (pa_cons (pe_bltn (v := .ty "bool") (by rfl) T.bool_ PyProof.Rows.boot_bool rfl) pa_nil)))) (pe_one (pe_chain op_le op_le (pv 1) (pv 0) (pv 2))))))), ?_⟩
  cases hv with
  | int i =>
    refine ⟨_, rfl, .int i, .ty "int", .type "int", .type "int", true, rfl, .ty "int", .base (.int i), kit_ty (by decide +kernel), _, rfl, iteT ?_⟩
    refine ⟨_, rfl, .int i, .ty "bool", .type "int", .type "bool", false, rfl, .ty "bool", .base (.int i), kit_ty (by decide +kernel), _, rfl, _, rfl, iteT ?_⟩
    refine ⟨_, rfl, _, rfl, _, _, rfl, rfl, _, rfl, ?_⟩
    have hQ' : Q (.bl (decide (a ≤ i) && decide (i ≤ b))) H := hQ
    cases e : decide (a ≤ i) with
    | true =>
      rw [e] at hQ'
      exact iteT ⟨_, rfl, _, _, rfl, rfl, hQ'⟩
    | false =>
      rw [e] at hQ'
      exact iteF hQ'
  | bl i =>
    refine ⟨_, rfl, .bl i, .ty "int", .type "bool", .type "int", true, rfl, .ty "int", .base (.bl i), kit_ty (by decide +kernel), _, rfl, iteT ?_⟩
    exact ⟨_, rfl, .bl i, .ty "bool", .type "bool", .type "bool", true, rfl, .ty "bool", .base (.bl i), kit_ty (by decide +kernel), _, rfl, _, rfl, iteF hQ⟩
  | str i => exact ⟨_, rfl, .str i, .ty "int", .type "str", .type "int", false, rfl, .ty "int", .base (.str i), kit_ty (by decide +kernel), _, rfl, iteF hQ⟩
theorem w_is_entry (T : Txt K mg) (c_is_from : Cl P w K mg base 1 "is_from" spFrom) (D : Dn K mg "is_entry" s_is_entry) : Cl P w K mg base 2 "is_entry" spEntry := by
  refine cl_of D sc_is_entry (fun vs H Q E h => ?_) (fun _ _ _ _ _ _ us hl => match us, hl with | [_, _], _ => rfl) fun f cdv A outer s H vs Q E hr h => ?_
  · obtain ⟨v, a, b, rfl, _⟩ := h
    rfl
  obtain ⟨v, ⟨i, j⟩, m, rfl, ⟨a, rfl, ha⟩, hi, hj, hQ⟩ := h
  refine ⟨_, PSs.nox (pss_one (ps_ret (pe_and (pe_callB call_isi (by rfl) T.isi_ PyProof.Rows.boot_isinstance (pa_cons (pv 0) (pa_cons (pe_bltn (v := .ty "tuple") (by rfl) T.tuple_ PyProof.Rows.boot_tuple rfl) pa_nil))) (pe_and (pe_cmpR op_eq (pe_callB call_len (by rfl) T.len_ PySem.boot_len (pa_cons (pv 0) pa_nil)) pe_int (nomark _)) (pe_one (pe_callB (cr_all rfl) (by rfl) T.all_ PyProof.Rows.boot_all (pa_cons (pe_lc (own := [("one", 2)]) (g := (gName 2)) (tt := tYes) rfl sc_is_entry.nd (pi_tup (pv 0)) (blkOk_by (own := [("one", 2)]) (N := N_is_entry) (sc := (defScope s_is_entry)) (by decide +kernel)) (fun _ _ _ _ _ => (pg_name (i := 2) sc_is_entry.nd rfl (Or.inl rfl))) (fun _ _ _ _ _ => pts_nil) (fun _ _ _ _ _ => (pe_cl c_is_from hr (by decide) rfl (pa_cons (pv 2) (pa_cons pe_int (pa_cons (pe_op op_sub (pv 1) pe_int) pa_nil)))))) pa_nil))))))), ?_⟩
  refine ⟨_, rfl, .ref a, .ty "tuple", .type "tuple", .type "tuple", true, rfl, .ty "tuple", .base (.tup ha), kit_ty (by decide +kernel), _, rfl, iteT ?_⟩
  refine ⟨_, rfl, _, 2, rfl, .inr ⟨_, SqT.of ha, rfl⟩, rfl, _, rfl, iteT ?_⟩
  refine ⟨_, rfl, a, rfl, ⟨_, SqT.of ha⟩, fun D hD => ?_⟩
  refine lc_it (walk_tup (xs := [nV i, nV j])) (Gath H [] J0 D [i, j] (fun _ => some true) (fun _ v b => v = .bl b)) (gath0 hD trivial) (fun _ H _ p => SqT.of (p.keep.at_ ha)) ?_ ?_
  · rintro k x H2 H3 hk p ⟨rfl, hx⟩
    obtain ⟨n, hn, hx', hm⟩ : ∃ n, [i, j][k]? = some n ∧ x = nV n ∧ n < m := by
      match k, hk with
      | 0, _ => exact ⟨i, rfl, (Option.some.inj hx).symm, hi⟩
      | 1, _ => exact ⟨j, rfl, (Option.some.inj hx).symm, hj⟩
    subst hx'
    refine ⟨rfl, yes_ ?_⟩
    refine ⟨_, rfl, _, rfl, _, _, rfl, rfl, _, _, _, rfl, .int _, ?_⟩
    exact p.yes gx_flat hD hn (by show 2 < sizeLine; decide) (Keep.refl _ _) trivial rfl (congrArg V.bl (fromB_nat hm))
  · intro H2 p
    obtain ⟨k, _, ys, hy, hp⟩ := p.all rfl
    rw [bl_list hp] at hy
    exact ⟨D, _, rfl, SqL.of hy, hQ _ k⟩
theorem w_is_node (T : Txt K mg) (mNums : ∃ t, mg "MOST_NUMBERS" = some (.int 1000 t)) (c_is_from : Cl P w K mg base 1 "is_from" spFrom) (c_is_entry : Cl P w K mg base 2 "is_entry" spEntry) (c_is_tag : Cl P w K mg base 2 "is_tag" spTag) (D : Dn K mg "is_node" s_is_node) : Cl P w K mg base 3 "is_node" spNode := by
  obtain ⟨tk, mNums⟩ := mNums
  refine cl_of D sc_is_node (fun vs H Q E h => ?_) (fun _ _ _ _ _ _ us hl => match us, hl with | [_, _], _ => rfl) fun f cdv A outer s H vs Q E hr h => ?_
  · obtain ⟨v, a, b, rfl, _⟩ := h
    rfl
  obtain ⟨v, n, m, rfl, ⟨a, c, rfl, ha, hc⟩, ⟨hb, ht, hl⟩, hQ⟩ := h
  refine ⟨_, PSs.nox (pss_cons (ps_if (PW.pt (pw_or (pt_not (pt_val (pe_callB call_isi (by rfl) T.isi_ PyProof.Rows.boot_isinstance (pa_cons (pv 0) (pa_cons (pe_bltn (v := .ty "tuple") (by rfl) T.tuple_ PyProof.Rows.boot_tuple rfl) pa_nil))))) (pw_or (pt_cmpR op_ne (pe_callB call_len (by rfl) T.len_ PySem.boot_len (pa_cons (pv 0) pa_nil)) pe_int (nomark _)) (pw_or (pt_not (pt_val (pe_callB call_isi (by rfl) T.isi_ PyProof.Rows.boot_isinstance (pa_cons (pe_ix ix_tup (pv 0) pe_int (fun _ _ => rfl)) (pa_cons (pe_bltn (v := .ty "str") (by rfl) T.str_ PyProof.Rows.boot_str rfl) pa_nil))))) (pw_or1 (pt_not (pt_val (pe_cl c_is_tag hr (by decide) rfl (pa_cons (pe_ix ix_tup (pv 0) pe_int (fun _ _ => rfl)) pa_nil))))))))) (pss_one (ps_ret pe_bl)) pss_nil) (pss_cons (ps_asg (pv 0) (pg_tup (by rfl) (pgs_cons (pg_name (i := 2) sc_is_node.nd rfl (Or.inl rfl)) (pgs_cons (pg_name (i := 3) sc_is_node.nd rfl (Or.inl rfl)) (pgs_cons (pg_name (i := 4) sc_is_node.nd rfl (Or.inl rfl)) pgs_nil))))) (pss_cons (ps_if (pt_cmpR op_eq (pv 2) pe_str (nomark _)) (pss_one (ps_ret (pe_callB call_isi (by rfl) T.isi_ PyProof.Rows.boot_isinstance (pa_cons (pv 4) (pa_cons (pe_bltn (v := .ty "str") (by rfl) T.str_ PyProof.Rows.boot_str rfl) pa_nil))))) pss_nil) (pss_cons (ps_if (PW.pt (pw_or (pt_cmpR op_notIn_seq (pv 2) (pe_tup (pa_cons pe_str (pa_cons pe_str pa_nil))) (by rfl)) (pw_or1 (pt_not (pt_val (pe_callB call_isi (by rfl) T.isi_ PyProof.Rows.boot_isinstance (pa_cons (pv 4) (pa_cons (pe_bltn (v := .ty "tuple") (by rfl) T.tuple_ PyProof.Rows.boot_tuple rfl) pa_nil)))))))) (pss_one (ps_ret pe_bl)) pss_nil) (pss_cons (ps_if (pt_cmpR op_eq (pv 2) pe_str (nomark _)) (pss_one (ps_ret (pe_and (pe_cmpR op_le (pe_callB call_len (by rfl) T.len_ PySem.boot_len (pa_cons (pv 4) pa_nil)) (pe_glob (v := .int 1000) rfl mNums ⟨_, rfl⟩) (nomark _)) (pe_one (pe_callB (cr_all rfl) (by rfl) T.all_ PyProof.Rows.boot_all (pa_cons (pe_lc (own := [("one", 5)]) (g := (gName 5)) (tt := tYes) rfl sc_is_node.nd (pi_tup (pv 4)) (blkOk_by (own := [("one", 5)]) (N := N_is_node) (sc := (defScope s_is_node)) (by decide +kernel)) (fun _ _ _ _ _ => (pg_name (i := 5) sc_is_node.nd rfl (Or.inl rfl))) (fun _ _ _ _ _ => pts_nil) (fun _ _ _ _ _ => (pe_cl c_is_from hr (by decide) rfl (pa_cons (pv 5) (pa_cons pe_int (pa_cons (pe_op op_sub (pv 1) pe_int) pa_nil)))))) pa_nil)))))) pss_nil) (pss_one (ps_ret (pe_and (pe_cmpR op_le (pe_op op_mul pe_int (pe_callB call_len (by rfl) T.len_ PySem.boot_len (pa_cons (pv 4) pa_nil))) (pe_glob (v := .int 1000) rfl mNums ⟨_, rfl⟩) (nomark _)) (pe_one (pe_callB (cr_all rfl) (by rfl) T.all_ PyProof.Rows.boot_all (pa_cons (pe_lc (own := [("one", 5)]) (g := (gName 5)) (tt := tYes) rfl sc_is_node.nd (pi_tup (pv 4)) (blkOk_by (own := [("one", 5)]) (N := N_is_node) (sc := (defScope s_is_node)) (by decide +kernel)) (fun _ _ _ _ _ => (pg_name (i := 5) sc_is_node.nd rfl (Or.inl rfl))) (fun _ _ _ _ _ => pts_nil) (fun _ _ _ _ _ => (pe_cl c_is_entry hr (by decide) rfl (pa_cons (pv 5) (pa_cons (pv 1) pa_nil))))) pa_nil))))))))))), ?_⟩
  refine ⟨_, rfl, .ref a, .ty "tuple", .type "tuple", .type "tuple", true, rfl, .ty "tuple", .base (.tup ha), kit_ty (by decide +kernel), _, rfl, iteF ?_⟩
  refine ⟨_, rfl, _, 3, rfl, .inr ⟨_, SqT.of ha, rfl⟩, rfl, _, rfl, iteF ?_⟩
  refine ⟨_, rfl, _, _, _, _, rfl, rfl, SqT.of ha, rfl, .str n.kind, .ty "str", .type "str", .type "str", true, rfl, .ty "str", .base (.str _), kit_ty (by decide +kernel), _, rfl, iteF ?_⟩
  refine ⟨_, rfl, _, _, _, _, rfl, rfl, SqT.of ha, rfl, n.tag, rfl, ht, fun H1 k1 => ?_⟩
  have ha1 := k1.at_ ha
  have hc1 : Cont H1 c n := hc.ext k1.ext0
  refine ⟨_, rfl, iteF ?_⟩
  refine ⟨_, rfl, a, _, rfl, SqT.of ha1, rfl, _, _, rfl, _, _, rfl, _, _, rfl, rfl, ?_⟩
  cases n with
  | sc t x =>
    obtain rfl : c = .str x := hc1
    refine ⟨_, rfl, rfl, _, rfl, iteT ?_⟩
    exact ⟨_, rfl, .str x, .ty "str", .type "str", .type "str", true, rfl, .ty "str", .base (.str _), kit_ty (by decide +kernel), hQ _ k1⟩
  | sq t xs =>
    obtain ⟨b, rfl, hx⟩ := hc1
    refine ⟨_, rfl, rfl, _, rfl, iteF ?_⟩
    refine ⟨_, rfl, by decide +kernel, fun p hp => ?_⟩
    have k2 : Keep [] H (upd H1 p (.tup [.str "sequence", .str "mapping"])) := k1.new hp
    have hx2 : upd H1 p (.tup [.str "sequence", .str "mapping"]) b = some (.tup (xs.map nV)) := (keep_new hp).at_ hx
    refine ⟨p, _, rfl, .inr (SqT.of upd_same), rfl, by decide +kernel, _, rfl, ?_⟩
    rw [show (if true = true then !inV (V.str (Nd.sq t xs).kind) [.str "sequence", .str "mapping"] else inV (V.str (Nd.sq t xs).kind) [.str "sequence", .str "mapping"]) = false by show (!inV (V.str "sequence") [.str "sequence", .str "mapping"]) = false; decide +kernel]
    refine iteF ⟨_, rfl, .ref b, .ty "tuple", .type "tuple", .type "tuple", true, rfl, .ty "tuple", .base (.tup hx2), kit_ty (by decide +kernel), _, rfl, iteF ?_⟩
    refine ⟨_, rfl, rfl, _, rfl, iteT ?_⟩
    have hlen : xs.length ≤ 4 := hl
    refine ⟨_, rfl, _, xs.length, rfl, .inr ⟨_, SqT.of hx2, by rw [List.length_map]⟩, _, _, rfl, rfl, _, rfl, ?_⟩
    rw [decide_eq_true (by omega)]
    refine iteT ⟨_, rfl, b, rfl, ⟨_, SqT.of hx2⟩, fun D hD => ?_⟩
    refine lc_it (walk_tup (xs := xs.map nV)) (Gath _ [] J0 D xs (fun _ => some true) (fun _ v b => v = .bl b)) (gath0 hD trivial) (fun _ H _ p => SqT.of (p.keep.at_ hx2)) ?_ ?_
    · rintro i x H2 H3 hi q ⟨rfl, e⟩
      obtain ⟨k, hk, rfl⟩ := map_get e
      refine ⟨rfl, yes_ ?_⟩
      refine ⟨_, rfl, _, rfl, _, _, rfl, rfl, _, _, _, rfl, .int _, ?_⟩
      exact q.yes gx_flat hD hk (small_line (by omega)) (Keep.refl _ _) trivial rfl (congrArg V.bl (fromB_nat (hb k (List.mem_of_getElem? hk))))
    · intro H2 q
      obtain ⟨k, _, ys, hy, hp⟩ := q.all (by rw [List.length_map])
      rw [fm_some (fun _ => true)] at hp
      rw [bl_list hp] at hy
      refine ⟨D, _, rfl, SqL.of hy, ?_⟩
      rw [show (xs.map fun _ => true).all id = true by simp]
      exact hQ _ (k2.trans k)
  | mp t es =>
    obtain ⟨b, vs, rfl, hx, hp⟩ := hc1
    refine ⟨_, rfl, rfl, _, rfl, iteF ?_⟩
    refine ⟨_, rfl, by decide +kernel, fun p hp => ?_⟩
    have k2 : Keep [] H (upd H1 p (.tup [.str "sequence", .str "mapping"])) := k1.new hp
    have k3 : Keep [] H1 (upd H1 p (.tup [.str "sequence", .str "mapping"])) := keep_new hp
    have hx2 := k3.at_ hx
    refine ⟨p, _, rfl, .inr (SqT.of upd_same), rfl, by decide +kernel, _, rfl, ?_⟩
    rw [show (if true = true then !inV (V.str (Nd.mp t es).kind) [.str "sequence", .str "mapping"] else inV (V.str (Nd.mp t es).kind) [.str "sequence", .str "mapping"]) = false by show (!inV (V.str "mapping") [.str "sequence", .str "mapping"]) = false; decide +kernel]
    refine iteF ⟨_, rfl, .ref b, .ty "tuple", .type "tuple", .type "tuple", true, rfl, .ty "tuple", .base (.tup hx2), kit_ty (by decide +kernel), _, rfl, iteF ?_⟩
    refine ⟨_, rfl, rfl, _, rfl, iteF ?_⟩
    have hlen : es.length ≤ 4 := hl
    rename_i hpp
    have hvl : vs.length = es.length := paired_len ‹Paired (PairV H1) vs es›
    refine ⟨_, rfl, _, vs.length, rfl, .inr ⟨_, SqT.of hx2, rfl⟩, _, _, rfl, rfl, .inl ⟨by decide, by decide⟩, _, _, rfl, rfl, _, rfl, ?_⟩
    rw [decide_eq_true (by omega)]
    refine iteT ⟨_, rfl, b, rfl, ⟨_, SqT.of hx2⟩, fun D hD => ?_⟩
    refine lc_it (walk_tup (xs := vs)) (Gath _ [] J0 D vs (fun _ => some true) (fun _ v b => v = .bl b)) (gath0 hD trivial) (fun _ H _ p => SqT.of (p.keep.at_ hx2)) ?_ ?_
    · rintro i x H2 H3 hi q ⟨rfl, e⟩
      obtain ⟨y, hy, pv⟩ := paired_get ‹Paired (PairV H1) vs es› e
      refine ⟨rfl, yes_ ?_⟩
      obtain ⟨y1, y2⟩ := hb y (List.mem_of_getElem? hy)
      refine ⟨_, rfl, _, rfl, _, y, m, rfl, pv.ext (k3.trans q.keep).ext0, y1, y2, fun H4 k4 => ?_⟩
      exact q.yes gx_flat hD e (small_line (by omega)) k4 trivial rfl rfl
    · intro H2 q
      obtain ⟨k, _, ys, hy, hp⟩ := q.all rfl
      rw [fm_some (fun _ => true)] at hp
      rw [bl_list hp] at hy
      refine ⟨D, _, rfl, SqL.of hy, ?_⟩
      rw [show (vs.map fun _ => true).all id = true by simp]
      exact hQ _ (k2.trans k)
end
end Ap
set_option Elab.async false
set_option linter.all false
set_option maxRecDepth 100000
set_option maxHeartbeats 4000000
namespace Ap
open PySem PySem.Spec PyProof.Rows L2
abbrev N_init : List Str := ["self", "nodes", "top", "index", "node"]
theorem sc_init : FnScope N_init ["self", "nodes", "top"] (defScope s_init) := ⟨rfl, rfl, rfl, by decide +kernel, rfl, by decide +kernel, by decide +kernel⟩

abbrev N_require_graphs : List Str := ["graphs", "graph"]
theorem sc_require_graphs : FnScope N_require_graphs ["graphs"] (defScope s_require_graphs) := ⟨rfl, rfl, rfl, by decide +kernel, rfl, by decide +kernel, by decide +kernel⟩

/-- all nodes fit in their graph -/
def NsOk (ns : List Nd) : Prop := ∀ n ∈ ns, NdOk ns.length n
def spInit (C : Addr) : Sp := fun vs H Q _ => ∃ (x a dx : Addr) (us : List V) (ns : List Nd) (n : Nat), vs = [.ref x, .ref a, nV n] ∧ H x = some (.ins C dx []) ∧ H a = some (.lst us) ∧ Paired (NdV H) us ns ∧ ns ≠ [] ∧ ns.length ≤ 200 ∧ NsOk ns ∧ n < ns.length ∧
  ∀ H' t, Keep [x] H H' → H' x = some (.ins C dx (gfs t n)) → H' t = some (.tup us) → Q .non H'
section
variable {P : Program} {w : World} {K : PySem.W.Frag} {mg : Str → Option Value} {base : Heap}
theorem w_init {C : Addr} {f : Addr} {fd : FuncData} (T : Txt K mg) (GG : GC K mg C) (mNodes : ∃ t, mg "MOST_NODES" = some (.int 200 t)) (c_is_from : Cl P w K mg base 1 "is_from" spFrom) (c_is_node : Cl P w K mg base 3 "is_node" spNode)
    (F : FunD K "__init__" "Graph.__init__" (defArgs s_init) (defBody s_init) (defScope s_init) [.int 0] [] f fd) : FnOk P w K mg base CX0 4 f fd ["self", "nodes", "top"] (spInit C) := by
  obtain ⟨tk, mNodes⟩ := mNodes
  refine F.ok sc_init (fun vs H Q E h => ?_) fun cdv A outer s H vs Q E hr h => ?_
  · obtain ⟨v, a, b, us, ns, n, rfl, _⟩ := h
    rfl
  obtain ⟨x, a, dx, us, ns, n, rfl, hx, ha, hp, hne, h200, hok, hn, hQ⟩ := h
  refine ⟨_, PSs.nox (pss_cons (ps_if (PW.pt (pw_or (pt_not (pt_val (pe_callB call_isiT (by rfl) T.isi_ PyProof.Rows.boot_isinstance (pa_cons (pv 1) (pa_cons (pe_tup (pa_cons (pe_bltn (v := .ty "list") (by rfl) T.list_ PyProof.Rows.boot_list rfl) (pa_cons (pe_bltn (v := .ty "tuple") (by rfl) T.tuple_ PyProof.Rows.boot_tuple rfl) pa_nil))) pa_nil))))) (pw_or1 (pt_not (pt_chain op_le op_le pe_int (pe_callB call_len (by rfl) T.len_ PySem.boot_len (pa_cons (pv 1) pa_nil)) (pe_glob (v := .int 200) rfl mNodes ⟨_, rfl⟩)))))) (pss_one ps_never) pss_nil) (pss_cons (ps_for PassesOwn.never rfl (pi_enumA (by rfl) T.enum_ (pa_cons (pv 1) pa_nil)) (pg_tup (by rfl) (pgs_cons (pg_name (i := 3) sc_init.nd rfl (Or.inl rfl)) (pgs_cons (pg_name (i := 4) sc_init.nd rfl (Or.inl rfl)) pgs_nil))) (pss_one (ps_if (pt_not (pt_val (pe_cl c_is_node hr (by decide) rfl (pa_cons (pv 4) (pa_cons (pe_callB call_len (by rfl) T.len_ PySem.boot_len (pa_cons (pv 1) pa_nil)) pa_nil))))) (pss_one ps_never) pss_nil))) (pss_cons (ps_if (pt_not (pt_val (pe_cl c_is_from hr (by decide) rfl (pa_cons (pv 2) (pa_cons pe_int (pa_cons (pe_op op_sub (pe_callB call_len (by rfl) T.len_ PySem.boot_len (pa_cons (pv 1) pa_nil)) pe_int) pa_nil)))))) (pss_one ps_never) pss_nil) (pss_one (ps_asg (pe_tup (pa_cons (pe_callTy call_tuple_of (by rfl) T.tuple_ PyProof.Rows.boot_tuple (pa_cons (pv 1) pa_nil)) (pa_cons (pv 2) pa_nil))) (pg_tup (by rfl) (pgs_cons (pg_fld (pv 0)) (pgs_cons (pg_fld (pv 0)) pgs_nil)))))))), ?_⟩
  refine ⟨_, rfl, by decide +kernel, fun tp htp => ?_⟩
  have k1 : Keep [] H (upd H tp (.tup [.ty "list", .ty "tuple"])) := keep_new htp
  generalize hH1 : upd H tp (.tup [.ty "list", .ty "tuple"]) = H1 at k1 ⊢
  have ha1 := k1.at_ ha
  have htup : H1 tp = some (.tup [.ty "list", .ty "tuple"]) := by rw [← hH1]; exact upd_same
  have hl : us.length = ns.length := paired_len hp
  have h0 : 0 < ns.length := List.length_pos_iff.mpr hne
  refine ⟨.ref a, tp, _, .type "list", [.type "list", .type "tuple"], true, rfl, htup, .cons (.ty _) (.cons (.ty _) .nil), .base (.lst ha1), kitAny_cons (b := true) (kit_ty (by decide +kernel)) (fun z => nomatch z) (fun _ => rfl), _, rfl, iteF ?_⟩
  refine ⟨_, rfl, _, us.length, rfl, .inl ⟨_, SqL.of ha1, rfl⟩, _, _, rfl, rfl, _, rfl, ?_⟩
  rw [decide_eq_true (show (1 : Int) ≤ (us.length : Int) by omega)]
  refine iteT ⟨_, _, rfl, rfl, _, rfl, ?_⟩
  rw [decide_eq_true (show (us.length : Int) ≤ 200 by omega)]
  refine iteF ?_
  refine ⟨_, rfl, a, us, rfl, .inl ⟨SqL.of ha1, ?_⟩⟩
  refine for_it (walk_enum (xs := us)) (fun i σ H2 => Keep [] H1 H2 ∧ ∃ u v, σ = [some (.ref x), some (.ref a), some (nV n), u, v]) ⟨Keep.refl _ _, _, _, rfl⟩ (fun i σ H2 _ q => SqL.of (q.1.at_ ha1)) ?_ ?_
  · rintro i v σ H2 H3 hi ⟨k2, u1, u2, rfl⟩ ⟨t, x1, x2, rfl, ht, rfl, e1, e2⟩
    cases Option.some.inj e1
    refine ⟨t, _, rfl, SqT.of upd_same, rfl, _, _, rfl, _, _, rfl, rfl, ?_⟩
    have k3 : Keep [] H1 (upd H2 t (.tup [.int (i : Nat), x2])) := k2.new ht
    obtain ⟨nd, hnd, hv⟩ := paired_get hp e2
    refine ⟨_, rfl, _, rfl, _, us.length, rfl, .inl ⟨_, SqL.of (k3.at_ ha1), rfl⟩, x2, nd, ns.length, by rw [hl], hv.ext (k1.trans k3).ext0, hok nd (List.mem_of_getElem? hnd), fun H4 k4 => ?_⟩
    exact ⟨_, rfl, iteF ⟨k3.trans k4, _, _, rfl⟩⟩
  · rintro σ H2 ⟨k2, u1, u2, rfl⟩
    refine ⟨_, rfl, _, rfl, _, us.length, rfl, .inl ⟨_, SqL.of (k2.at_ ha1), rfl⟩, _, _, rfl, rfl, nV n, 0, _, rfl, .int _, ?_⟩
    refine ⟨_, rfl, ?_⟩
    rw [fromB_nat (show n < us.length by omega)]
    refine iteF ?_
    have k := k1.trans k2
    refine ⟨_, rfl, a, us, rfl, .inl ⟨SqL.of (k2.at_ ha1), fun t ht => ?_⟩⟩
    refine ⟨_, rfl, (by show 2 ≤ sizeLine; decide), fun p hp2 => ?_⟩
    have k4 : Keep [] H (upd (upd H2 t (.tup us)) p (.tup [.ref t, nV n])) := (k.new ht).new hp2
    refine ⟨p, _, rfl, SqT.of upd_same, rfl, _, _, rfl, ?_⟩
    refine ⟨_, rfl, x, C, dx, _, rfl, k4.at_ hx, GG.cl, GG.nN, by decide, ?_⟩
    refine ⟨_, _, rfl, ?_⟩
    refine ⟨_, rfl, x, C, dx, _, rfl, upd_same, GG.cl, GG.nT, (by show 1 < 1000; decide), rfl, ?_⟩
    have ht2 : upd (upd H2 t (.tup us)) p (.tup [.ref t, nV n]) t = some (.tup us) := (keep_new (ex := []) hp2).at_ upd_same
    refine hQ _ t ((k4.more.updm (List.mem_singleton.mpr rfl)).updm (List.mem_singleton.mpr rfl)) upd_same ?_
    rw [upd_ne, upd_ne]
    · exact ht2
    · exact ne_of ht2 (k4.at_ hx) (by intro z; cases z)
    · exact ne_of ht2 (k4.at_ hx) (by intro z; cases z)
/-- the class as what makes graphs -/
structure ClG (P : Program) (w : World) (K : PySem.W.Frag) (mg : Str → Option Value) (base : Heap) (C : Addr) : Prop where
  gc : GC K mg C
  ex : ∃ f fd ds, Mk K C f ∧ FnOk P w K mg base CX0 4 f fd ["self", "nodes", "top"] (spInit C) ∧ Binds K fd ["self", "nodes", "top"] [] ∧ Binds K fd ["self", "nodes", "top"] ds ∧ Vals [.int 0] ds
theorem clG {C f : Addr} {fd : FuncData} (T : Txt K mg) (GG : GC K mg C) (M : Mk K C f) (mNodes : ∃ t, mg "MOST_NODES" = some (.int 200 t)) (c_is_from : Cl P w K mg base 1 "is_from" spFrom) (c_is_node : Cl P w K mg base 3 "is_node" spNode)
    (F : FunD K "__init__" "Graph.__init__" (defArgs s_init) (defBody s_init) (defScope s_init) [.int 0] [] f fd) : ClG P w K mg base C := by
  obtain ⟨ds0, v0, b0⟩ := F.binds1 (ps := ["self", "nodes", "top"]) 3 1 (by simp) rfl fun T kV doc pm an cdv ct us its h1 h2 => match us, its, h1, h2 with | [_, _, _], [_], _, _ => ⟨_, rfl, rfl⟩
  obtain ⟨ds1, v1, b1⟩ := F.binds1 (ps := ["self", "nodes", "top"]) 2 0 (by simp) rfl fun T kV doc pm an cdv ct us its h1 h2 => match us, its, h1, h2 with | [_, _], [_], _, _ => ⟨_, rfl, rfl⟩
  cases v0
  exact ⟨GG, f, fd, ds1, M, w_init T GG mNodes c_is_from c_is_node F, b0, b1, v1⟩
/-- a new graph -/
def kGraph (C : Addr) (a : Addr) (n : Nat) (H1 : Hp) (Q : VK) : Prop := ∃ us ns, H1 a = some (.lst us) ∧ Paired (NdV H1) us ns ∧ ns ≠ [] ∧ ns.length ≤ 200 ∧ NsOk ns ∧ n < ns.length ∧ ∀ g H', Keep [] H1 H' → H1 g = none → GrAt C H' g ns n → Q (.ref g) H'
def tGraph2 (C : Addr) (ta : TA) : TE := fun σ H Q => ta σ H fun vs H1 => ∃ a n, vs = [.ref a, nV n] ∧ kGraph C a n H1 Q
def tGraph1 (C : Addr) (ta : TA) : TE := fun σ H Q => ta σ H fun vs H1 => ∃ a, vs = [.ref a] ∧ kGraph C a 0 H1 Q
theorem init_of {C a x dx : Addr} {n : Nat} {H1 : Hp} {Q : VK} {E : XK} (h : kGraph C a n H1 Q) (hx : H1 x = none) (hd : H1 dx = none) (ne : dx ≠ x) : spInit C [.ref x, .ref a, nV n] (upd (upd H1 dx (.own x)) x (.ins C dx [])) (fun v H2 => v = .non ∧ Q (.ref x) H2) E := by
  obtain ⟨us, ns, ha, hp, h1, h2, h3, h4, hQ⟩ := h
  have hx2 : upd H1 dx (.own x) x = none := by rw [upd_ne (fun q => ne q.symm)]; exact hx
  have k : Keep [] H1 (upd (upd H1 dx (.own x)) x (.ins C dx [])) := (keep_new hd).new hx2
  refine ⟨x, a, dx, us, ns, n, rfl, upd_same, k.at_ ha, nds_ext k.ext0 hp, h1, h2, h3, h4, fun H' t k2 e1 e2 => ⟨rfl, ?_⟩⟩
  have k3 : Keep [] H1 H' := ((k.more (ex := [x])).trans k2).drop hx
  exact hQ x H' k3 hx ⟨dx, t, us, e1, e2, nds_ext k3.ext0 hp⟩
theorem pe_graph2 {X : Cx} {C : Addr} {k : Nat} {p pos : Pos} {a b : Expr} {ta : TA} (c : ClG X.prog X.w X.K X.mg X.base C) (hr : Room k X.A) (hk : 5 ≤ k) (hg : Gl X "Graph") (ha : PA X [a, b] ta)
    (he : starEach [a, b] X.env = (false, eval a X.env) :: starEach [b] X.env := by rfl) (hpl : (backTo pos (starEach [b] X.env)).any (·.1) = false := by rfl) : PE X (.Call (.Name "Graph" p) [a, b] [] pos) (tGraph2 C ta) := by
  obtain ⟨f, fd, ds, M, F, b0, b1, v1⟩ := c.ex
  refine ⟨fun pins s σ H Q I h => ?_⟩
  refine wpAny_Call_Name_kw (ld_glob I hg c.gc.mg_ ?_ (by decide))
  refine PySem.W.callWith_K (h₀ := X.base) I.ok.mod.kin M.kp (thn (ha.run pos pins s σ H _ I h) fun us s1 ⟨vs, H1, I1, r, q⟩ => ⟨I1.kIn, ?_⟩) he hpl
  obtain ⟨a, n, rfl, q⟩ := q
  exact run_make M F (hr.mono hk) b0 .nil pass0 I1 r fun x dx hx hd ne => init_of q hx hd ne
theorem pe_graph1 {X : Cx} {C : Addr} {k : Nat} {p pos : Pos} {a : Expr} {ta : TA} (c : ClG X.prog X.w X.K X.mg X.base C) (hr : Room k X.A) (hk : 5 ≤ k) (hg : Gl X "Graph") (ha : PA X [a] ta)
    (he : starEach [a] X.env = (false, eval a X.env) :: starEach [] X.env := by rfl) (hpl : (backTo pos (starEach [] X.env)).any (·.1) = false := by rfl) : PE X (.Call (.Name "Graph" p) [a] [] pos) (tGraph1 C ta) := by
  obtain ⟨f, fd, ds, M, F, b0, b1, v1⟩ := c.ex
  refine ⟨fun pins s σ H Q I h => ?_⟩
  refine wpAny_Call_Name_kw (ld_glob I hg c.gc.mg_ ?_ (by decide))
  refine PySem.W.callWith_K (h₀ := X.base) I.ok.mod.kin M.kp (thn (ha.run pos pins s σ H _ I h) fun us s1 ⟨vs, H1, I1, r, q⟩ => ⟨I1.kIn, ?_⟩) he hpl
  obtain ⟨a, rfl, q⟩ := q
  exact run_make M F (hr.mono hk) b1 v1 pass0 I1 r fun x dx hx hd ne => init_of q hx hd ne
def GrV (C : Addr) (H : Hp) (v : V) : Prop := ∃ g dx fs, v = .ref g ∧ H g = some (.ins C dx fs)
def spReq0 (C : Addr) : Sp := fun vs H Q _ => ∃ (t : Addr) (us : List V), vs = [.ref t] ∧ H t = some (.tup us) ∧ (∀ u ∈ us, GrV C H u) ∧ Q .non H
def spReq (C : Addr) : Sp := fun vs H Q _ => ∃ u v : V, vs = [u, v] ∧ GrV C H u ∧ GrV C H v ∧ ∀ H', Keep [] H H' → Q .non H'
theorem GrAt.gr {C : Addr} {H : Hp} {g : Addr} {ns : List Nd} {n : Nat} (h : GrAt C H g ns n) : GrV C H (.ref g) := by
  obtain ⟨dx, t, vs, h1, _⟩ := h
  exact ⟨g, dx, _, rfl, h1⟩
theorem GrAt.keep {C : Addr} {H H' : Hp} {g : Addr} {ns : List Nd} {n : Nat} (h : GrAt C H g ns n) (k : Keep [] H H') : GrAt C H' g ns n := by
  obtain ⟨dx, t, vs, h1, h2, h3⟩ := h
  exact ⟨dx, t, vs, k.at_ h1, k.at_ h2, nds_ext k.ext0 h3⟩
theorem w_require_graphs {C : Addr} (T : Txt K mg) (GG : GC K mg C) (D : Dn K mg "require_graphs" s_require_graphs) : Cl P w K mg base 1 "require_graphs" (spReq C) := by
  obtain ⟨f, fd, F, hm⟩ := D.fn
  refine ⟨f, ?_, hm, F.kp⟩
  obtain ⟨oc, od, dV, kV, doc, pm, an, cdv, ct, osl, rfl, lk, hcd, hD, hK⟩ := F.ex
  rcases hD with ⟨_, rfl⟩ | ⟨e, _⟩
  case inr => exact absurd rfl e
  have G : FnR P w K mg base CX0 1 f (fun vs H Q E => ∃ ws rest, vs = ws ++ rest ∧ ws.length = ([] : List Str).length ∧ rest.length ≤ sizeLine ∧ ∀ p, H p = Option.none → spReq0 C (ws ++ [V.ref p]) (upd H p (.tup rest)) Q E) := by
    refine StX.fn_star (ps := []) (pv := "graphs") lk hcd sc_require_graphs StX.cxUp_none (fun us rest hl => match us, rest, hl with | [], [], _ => by rfl | [], _ :: _, _ => by rfl) fun A outer s H vs Q E hr h => ?_
    obtain ⟨t, us, rfl, ht, hg, hQ⟩ := h
    refine ⟨_, PSs.nox (pss_one (ps_for PassesOwn.never rfl (pi_tup (pv 0)) (pg_name (i := 1) sc_require_graphs.nd rfl (Or.inl rfl)) (pss_one (ps_if (pt_not (pt_val (pe_callB call_isi (by rfl) T.isi_ PyProof.Rows.boot_isinstance (pa_cons (pv 1) (pa_cons (pe_glob (v := .ref C) rfl GG.mg_ rfl) pa_nil))))) (pss_one ps_never) pss_nil)))), ?_⟩
    refine ⟨_, rfl, t, rfl, ⟨_, SqT.of ht⟩, ?_⟩
    refine for_it (walk_tup (xs := us)) (fun i σ H2 => H2 = H ∧ ∃ u, σ = [some (.ref t), u]) ⟨rfl, _, rfl⟩ (fun i σ H2 _ q => by rw [q.1]; exact SqT.of ht) ?_ ?_
    · rintro i v σ H2 H3 hi ⟨rfl, u, rfl⟩ ⟨rfl, e⟩
      obtain ⟨g, dx, fs, rfl, hgr⟩ := hg v (List.mem_of_getElem? e)
      refine ⟨_, rfl, .ref g, .ref C, .ref C, .ref C, true, rfl, .own C, .base (.ins hgr GG.cl GG.ha GG.hn GG.htk GG.hm), GG.me, _, rfl, iteF ⟨rfl, _, rfl⟩⟩
    · rintro σ H2 ⟨rfl, u, rfl⟩
      exact hQ
  intro A outer s H us vs Q E hr e v h
  refine G A outer s H us vs Q E hr e v ?_
  obtain ⟨u1, u2, rfl, h1, h2, hQ⟩ := h
  refine ⟨[], [u1, u2], rfl, rfl, (by show 2 ≤ sizeLine; decide), fun p hp => ⟨p, _, rfl, upd_same, ?_, hQ _ (keep_new hp)⟩⟩
  have gk : ∀ z, GrV C H z → GrV C (upd H p (.tup [u1, u2])) z := fun z ⟨g, dx, fs, e1, e2⟩ => ⟨g, dx, fs, e1, (keep_new (ex := []) hp).at_ e2⟩
  intro u hu
  rcases List.mem_cons.mp hu with rfl | hu
  · exact gk _ h1
  rcases List.mem_cons.mp hu with rfl | hu
  · exact gk _ h2
  · cases hu
end
end Ap
set_option Elab.async false
set_option linter.all false
set_option maxRecDepth 100000
set_option maxHeartbeats 4000000
namespace Ap
open PySem PySem.Spec PyProof.Rows L2
abbrev N_shifted : List Str := ["node", "by", "kind", "tag", "content", "number", "key", "value"]
theorem sc_shifted : FnScope N_shifted ["node", "by"] (defScope s_shifted) := ⟨rfl, rfl, rfl, by decide +kernel, rfl, by decide +kernel, by decide +kernel⟩

abbrev N_joined : List Str := ["graph", "other", "node"]
theorem sc_joined : FnScope N_joined ["graph", "other"] (defScope s_joined) := ⟨rfl, rfl, rfl, by decide +kernel, rfl, by decide +kernel, by decide +kernel⟩

abbrev N_numbered : List Str := ["keys", "known", "found", "key"]
theorem sc_numbered : FnScope N_numbered ["keys"] (defScope s_numbered) := ⟨rfl, rfl, rfl, by decide +kernel, rfl, by decide +kernel, by decide +kernel⟩

abbrev N_first_key : List Str := ["node", "kind", "tag", "content"]
theorem sc_first_key : FnScope N_first_key ["node"] (defScope s_first_key) := ⟨rfl, rfl, rfl, by decide +kernel, rfl, by decide +kernel, by decide +kernel⟩

def spShift : Sp := fun vs H Q _ => ∃ (v : V) (n : Nd) (b : Nat), vs = [v, nV b] ∧ NdV H v n ∧ n.len ≤ 4 ∧ ∀ H' v', Keep [] H H' → NdV H' v' (n.shift b) → Q v' H'
def Small (ns : List Nd) : Prop := ns.length ≤ 100 ∧ ∀ n ∈ ns, n.len ≤ 4
def spJoin (C : Addr) : Sp := fun vs H Q _ => ∃ (g h : Addr) (ns ms : List Nd) (n m : Nat), vs = [.ref g, .ref h] ∧ GrAt C H g ns n ∧ GrAt C H h ms m ∧ Small ns ∧ Small ms ∧
  ∀ H' p us, Keep [] H H' → H p = none → H' p = some (.lst us) → Paired (NdV H') us (joinN ns ms) → Q (.ref p) H'
/-- a key as the program makes it -/
def KeyT (H : Hp) (v : V) (k : NestedKey) : Prop := ∃ a, v = .ref a ∧ KeyV H k (.ref a) ∧ k.depth ≤ 8
def spNumd : Sp := fun vs H Q _ => ∃ (a : Addr) (us : List V) (ks : List NestedKey), vs = [.ref a] ∧ H a = some (.lst us) ∧ Paired (KeyT H) us ks ∧ ks.length ≤ 1000 ∧ ∀ H' p, Keep [] H H' → H p = none → H' p = some (.lst ((numd ks).map nV)) → Q (.ref p) H'
def spFirst : Sp := fun vs H Q _ => ∃ (v : V) (n : Nd), vs = [v] ∧ NdV H v n ∧ n.len ≤ 4 ∧ ∀ H' v', Keep [] H H' → KeyT H' v' (firstKey n) → Q v' H'
section
variable {P : Program} {w : World} {K : PySem.W.Frag} {mg : Str → Option Value} {base : Heap}
theorem KeyT.ext {H H' : Hp} {v : V} {k : NestedKey} (e : Ext H H') (h : KeyT H v k) : KeyT H' v k := by
  obtain ⟨a, h1, h2, h3⟩ := h
  exact ⟨a, h1, h2.ext e, h3⟩
theorem w_shifted (T : Txt K mg) (D : Dn K mg "shifted" s_shifted) : Cl P w K mg base 1 "shifted" spShift := by
  refine cl_of D sc_shifted (fun vs H Q E h => ?_) (fun _ _ _ _ _ _ us hl => match us, hl with | [_, _], _ => rfl) fun f cdv A outer s H vs Q E hr h => ?_
  · obtain ⟨v, n, b, rfl, _⟩ := h
    rfl
  obtain ⟨v, n, b, rfl, ⟨a, c, rfl, ha, hc⟩, hl, hQ⟩ := h
  refine ⟨_, PSs.nox (pss_cons (ps_asg (pv 0) (pg_tup (by rfl) (pgs_cons (pg_name (i := 2) sc_shifted.nd rfl (Or.inl rfl)) (pgs_cons (pg_name (i := 3) sc_shifted.nd rfl (Or.inl rfl)) (pgs_cons (pg_name (i := 4) sc_shifted.nd rfl (Or.inl rfl)) pgs_nil))))) (pss_cons (ps_if (pt_cmpR op_eq (pv 2) pe_str (nomark _)) (pss_one (ps_set (i := 4) sc_shifted.nd rfl (Or.inl rfl) (pe_callTy call_tuple_of (by rfl) T.tuple_ PyProof.Rows.boot_tuple (pa_cons (pe_lc (own := [("number", 5)]) (g := (gName 5)) (tt := tYes) rfl sc_shifted.nd (pi_tup (pv 4)) (blkOk_by (own := [("number", 5)]) (N := N_shifted) (sc := (defScope s_shifted)) (by decide +kernel)) (fun _ _ _ _ _ => (pg_name (i := 5) sc_shifted.nd rfl (Or.inl rfl))) (fun _ _ _ _ _ => pts_nil) (fun _ _ _ _ _ => (pe_op op_add (pv 5) (pv 1)))) pa_nil)))) (pss_one (ps_if (pt_cmpR op_eq (pv 2) pe_str (nomark _)) (pss_one (ps_set (i := 4) sc_shifted.nd rfl (Or.inl rfl) (pe_callTy call_tuple_of (by rfl) T.tuple_ PyProof.Rows.boot_tuple (pa_cons (pe_lc (own := [("key", 6), ("value", 7)]) (g := (gTup K 2 (gCons (gName 6) (gCons (gName 7) gNil)))) (tt := tYes) rfl sc_shifted.nd (pi_tup (pv 4)) (blkOk_by (own := [("key", 6), ("value", 7)]) (N := N_shifted) (sc := (defScope s_shifted)) (by decide +kernel)) (fun _ _ _ _ _ => (pg_tup (by rfl) (pgs_cons (pg_name (i := 6) sc_shifted.nd rfl (Or.inl rfl)) (pgs_cons (pg_name (i := 7) sc_shifted.nd rfl (Or.inl rfl)) pgs_nil)))) (fun _ _ _ _ _ => pts_nil) (fun _ _ _ _ _ => (pe_tup (pa_cons (pe_op op_add (pv 6) (pv 1)) (pa_cons (pe_op op_add (pv 7) (pv 1)) pa_nil))))) pa_nil)))) pss_nil))) (pss_one (ps_ret (pe_tup (pa_cons (pv 2) (pa_cons (pv 3) (pa_cons (pv 4) pa_nil)))))))), ?_⟩
  refine ⟨_, rfl, a, _, rfl, SqT.of ha, rfl, _, _, rfl, _, _, rfl, _, _, rfl, rfl, ?_⟩
  cases n with
  | sc t x =>
    obtain rfl : c = .str x := hc
    refine ⟨_, rfl, rfl, _, rfl, iteF ?_⟩
    refine ⟨_, rfl, rfl, _, rfl, iteF ?_⟩
    refine ⟨_, rfl, _, rfl, _, rfl, (by show 3 ≤ sizeLine; decide), fun p hp => hQ _ _ (keep_new hp) ⟨p, _, rfl, upd_same, rfl⟩⟩
  | sq t xs =>
    obtain ⟨q, rfl, hx⟩ := hc
    refine ⟨_, rfl, rfl, _, rfl, iteT ?_⟩
    refine ⟨_, rfl, q, rfl, ⟨_, SqT.of hx⟩, fun D hD => ?_⟩
    refine lc_it (walk_tup (xs := xs.map nV)) (Gath _ [] J0 D xs (fun x => some (x + b)) (fun _ v z => v = nV z)) (gath0 hD trivial) (fun _ H _ p => SqT.of (p.keep.at_ hx)) ?_ ?_
    · rintro i x H2 H3 hi p ⟨rfl, e⟩
      obtain ⟨k, hk, rfl⟩ := map_get e
      refine ⟨rfl, yes_ ?_⟩
      refine ⟨_, rfl, _, rfl, _, _, rfl, rfl, ?_⟩
      exact p.yes gx_flat hD hk (small_line (by have : xs.length ≤ 4 := hl; omega)) (Keep.refl _ _) trivial rfl (congrArg V.int (by push_cast; rfl))
    · intro H2 p
      obtain ⟨k, _, ys, hy, hp⟩ := p.all (by rw [List.length_map])
      rw [fm_some] at hp
      rw [paired_eq hp] at hy
      refine ⟨D, _, rfl, .inl ⟨SqL.of hy, fun l hl2 => ?_⟩⟩
      refine ⟨_, rfl, _, rfl, _, rfl, (by show 3 ≤ sizeLine; decide), fun p2 hp2 => hQ _ _ ((k.new hl2).new hp2) ⟨p2, _, rfl, upd_same, l, rfl, (keep_new (ex := []) hp2).at_ upd_same⟩⟩
  | mp t es =>
    obtain ⟨q, us, rfl, hx, hpp⟩ := hc
    refine ⟨_, rfl, rfl, _, rfl, iteF ?_⟩
    refine ⟨_, rfl, rfl, _, rfl, iteT ?_⟩
    refine ⟨_, rfl, q, rfl, ⟨_, SqT.of hx⟩, fun D hD => ?_⟩
    have hul : us.length = es.length := paired_len hpp
    refine lc_it (walk_tup (xs := us)) (Gath _ [] J0 D es (fun e => some (e.1 + b, e.2 + b)) PairV) (gath0 hD trivial) (fun _ H _ p => SqT.of (p.keep.at_ hx)) ?_ ?_
    · rintro i x H2 H3 hi p ⟨rfl, e⟩
      obtain ⟨y, hy, pv⟩ := paired_get hpp e
      obtain ⟨z, rfl, hz⟩ := pv.ext p.keep.ext0
      refine ⟨z, _, rfl, SqT.of hz, rfl, _, _, rfl, _, _, rfl, rfl, rfl, yes_ ?_⟩
      refine ⟨_, rfl, _, rfl, _, _, rfl, rfl, _, rfl, _, rfl, _, _, rfl, rfl, (by show 2 ≤ sizeLine; decide), fun p2 hp2 => ?_⟩
      exact p.yes (gx0 fun H H' v b k e h => h.ext e) hD hy (small_line (by have : es.length ≤ 4 := hl; omega)) (keep_new hp2) trivial rfl ⟨p2, rfl, upd_same⟩
    · intro H2 p
      obtain ⟨k, _, ys, hy, hp⟩ := p.all hul
      rw [fm_some] at hp
      refine ⟨D, _, rfl, .inl ⟨SqL.of hy, fun l hl2 => ?_⟩⟩
      have k2 : Keep [] H2 (upd H2 l (.tup ys)) := keep_new hl2
      refine ⟨_, rfl, _, rfl, _, rfl, (by show 3 ≤ sizeLine; decide), fun p2 hp2 => hQ _ _ ((k.new hl2).new hp2) ⟨p2, _, rfl, upd_same, l, _, rfl, (keep_new (ex := []) hp2).at_ upd_same, pairs_ext (k2.new hp2).ext0 hp⟩⟩
theorem shift_kind (b : Nat) (n : Nd) : (n.shift b).kind = n.kind := by cases n <;> rfl
theorem w_joined {C : Addr} (T : Txt K mg) (GG : GC K mg C) (c_shifted : Cl P w K mg base 1 "shifted" spShift) (D : Dn K mg "joined" s_joined) : Cl P w K mg base 2 "joined" (spJoin C) := by
  refine cl_of D sc_joined (fun vs H Q E h => ?_) (fun _ _ _ _ _ _ us hl => match us, hl with | [_, _], _ => rfl) fun f cdv A outer s H vs Q E hr h => ?_
  · obtain ⟨g, h, ns, ms, n, m, rfl, _⟩ := h
    rfl
  obtain ⟨g, h, ns, ms, n, m, rfl, ⟨dx, t, us, hg, ht, hp⟩, ⟨dy, t2, us2, hh, ht2, hp2⟩, ⟨l1, m1⟩, ⟨l2, m2⟩, hQ⟩ := h
  have e1 : us.length = ns.length := paired_len hp
  have e2 : us2.length = ms.length := paired_len hp2
  refine ⟨_, PSs.nox (pss_one (ps_ret (pe_op op_cat (pe_callTy call_list_of (by rfl) T.list_ PyProof.Rows.boot_list (pa_cons (pe_fld (pv 0) rfl) pa_nil)) (pe_lc (own := [("node", 2)]) (g := (gName 2)) (tt := tYes) rfl sc_joined.nd (pi_tup (pe_fld (pv 1) rfl)) (blkOk_by (own := [("node", 2)]) (N := N_joined) (sc := (defScope s_joined)) (by decide +kernel)) (fun _ _ _ _ _ => (pg_name (i := 2) sc_joined.nd rfl (Or.inl rfl))) (fun _ _ _ _ _ => pts_nil) (fun _ _ _ _ _ => (pe_cl c_shifted hr (by decide) rfl (pa_cons (pv 2) (pa_cons (pe_callB (kLen (K := K) rfl) (by rfl) T.len_ PySem.boot_len (pa_cons (kFld (K := K) rfl (pv 0) rfl) pa_nil)) pa_nil)))))))), ?_⟩
  refine ⟨_, rfl, g, C, dx, _, _, rfl, hg, GG.cl, GG.nN, gfs_nodes t n, t, us, rfl, .inr (SqT.of ht), fun l hl => ?_⟩
  have k1 : Keep [] H (upd H l (.lst us)) := keep_new hl
  refine ⟨_, rfl, h, C, dy, _, _, rfl, k1.at_ hh, GG.cl, GG.nN, gfs_nodes t2 m, t2, rfl, ⟨_, SqT.of (k1.at_ ht2)⟩, fun D hD => ?_⟩
  refine lc_it (walk_tup (xs := us2)) (Gath _ [] J0 D ms (fun x => some (x.shift ns.length)) NdV) (gath0 hD trivial) (fun _ H _ p => SqT.of (p.keep.at_ (k1.at_ ht2))) ?_ ?_
  · rintro i x H2 H3 hi p ⟨rfl, e⟩
    obtain ⟨y, hy, pv⟩ := paired_get hp2 e
    have k2 := k1.trans p.keep
    refine ⟨rfl, yes_ ?_⟩
    refine ⟨_, rfl, _, rfl, g, C, dx, _, _, rfl, k2.at_ hg, GG.cl, GG.nN, gfs_nodes t n, .ref t, us.length, rfl, .inr ⟨_, SqT.of (k2.at_ ht), rfl⟩, x, y, ns.length, by rw [e1], pv.ext k2.ext0, m2 y (List.mem_of_getElem? hy), fun H4 v4 k4 hv => ?_⟩
    exact p.yes (gx0 fun H H' v b k e h => h.ext e) hD hy (small_line (by omega)) k4 trivial rfl hv
  · intro H2 p
    obtain ⟨k, _, ys, hy, hq⟩ := p.all e2
    rw [fm_some] at hq
    have k3 := k1.trans k
    have hys : ys.length = ms.length := by rw [paired_len hq, List.length_map]
    refine ⟨l, D, us, ys, rfl, rfl, k.at_ upd_same, hy, small_line' (by omega), fun q hq2 => ?_⟩
    refine hQ _ q _ (k3.new hq2) ?_ upd_same (nds_ext (keep_new hq2).ext0 ?_)
    · cases e : H q with
      | none => rfl
      | some o => exact absurd (k3.at_ e) (by rw [hq2]; intro z; cases z)
    · exact paired_cat hq (nds_ext k3.ext0 hp)
theorem valN_off {k : NestedKey} : ∀ {kvs : List Ent} {ds : List NestedKey} {o : Nat}, kvs.map (·.1) = ds → (∀ j e, kvs[j]? = some e → e.2.2 = nV (j + o)) → (k ∈ ds → valN kvs k = some (nV (ds.idxOf k + o))) ∧ (k ∉ ds → valN kvs k = none)
  | [], _, o, rfl, h => ⟨fun q => by simp at q, fun _ => rfl⟩
  | e :: kvs, _, o, rfl, h => by
    obtain ⟨i1, i2⟩ := valN_off (k := k) (kvs := kvs) (o := o + 1) rfl fun j e' he => by rw [h (j + 1) e' he]; congr 1; push_cast; omega
    have h0 := h 0 e rfl
    unfold valN at i1 i2 ⊢
    rw [List.map_cons, List.find?_cons, List.idxOf_cons]
    by_cases q : e.1 = k
    · simp only [q, decide_true]
      refine ⟨fun _ => ?_, fun z => absurd (List.mem_cons_self ..) z⟩
      simp [h0]
    · simp only [q, decide_false]
      have q' : (e.1 == k) = false := by simpa using q
      refine ⟨fun z => ?_, fun z => i2 fun z' => z (List.mem_cons_of_mem _ z')⟩
      rcases List.mem_cons.mp z with z | z
      · exact absurd z.symm q
      · rw [i1 z, q']
        simp only [cond_false]
        congr 2
        push_cast
        omega
theorem valN_in {kvs : List Ent} {ds : List NestedKey} {k : NestedKey} (h1 : kvs.map (·.1) = ds) (h2 : ∀ j e, kvs[j]? = some e → e.2.2 = nV j) : (k ∈ ds → valN kvs k = some (nV (ds.idxOf k))) ∧ (k ∉ ds → valN kvs k = none) :=
  valN_off (o := 0) h1 h2
theorem DN.keep {H H' : Hp} {a : Addr} {kvs : List Ent} (d : DN P w H a kvs) (k : Keep [] H H') : DN P w H' a kvs := ⟨k.at_ d.at_, fun p hp => ⟨(d.keys p hp).1.ext k.ext0, (d.keys p hp).2⟩⟩
theorem none_of {H H' : Hp} {p : Addr} (k : Keep [] H H') (h : H' p = none) : H p = none := by
  cases e : H p with
  | none => rfl
  | some o => exact absurd (k.at_ e) (by rw [h]; intro z; cases z)
theorem w_numbered (T : Txt K mg) (D : Dn K mg "numbered" s_numbered) : Cl P w K mg base 1 "numbered" spNumd := by
  refine cl_of D sc_numbered (fun vs H Q E h => ?_) (fun _ _ _ _ _ _ us hl => match us, hl with | [_], _ => rfl) fun f cdv A outer s H vs Q E hr h => ?_
  · obtain ⟨a, us, ks, rfl, _⟩ := h
    rfl
  obtain ⟨a, us, ks, rfl, ha, hp, hl, hQ⟩ := h
  have hu16 : (A.deeper (envOfC "numbered" (defScope s_numbered) s.heap.objs.size f cdv)).units + 16 < cLine := by have := hr.un; omega
  have e1 : us.length = ks.length := paired_len hp
  refine ⟨_, PSs.nox (pss_cons (ps_par (by rfl) sc_numbered.nd (i := 1) (j := 2) rfl rfl (by decide) rfl rfl (pa_cons pe_dnewN (pa_cons (pe_lst pa_nil) pa_nil)) (by rfl)) (pss_cons (ps_for PassesOwn.never rfl (pi_list (pv 0)) (pg_name (i := 3) sc_numbered.nd rfl (Or.inl rfl)) (pss_cons (ps_expr (pe_setdN hu16 (pv 1) (pv 3) (pe_callB call_lenN (by rfl) T.len_ PySem.boot_len (pa_cons (pv 1) pa_nil)) ⟨rfl, rfl, rfl, rfl⟩)) (pss_one (ps_expr (pe_bm PySem.F.plainAttrs_list PySem.F.slot_list_append PySem.F.type_list_append mt_append (pv 2) (pa_cons (pe_getN hu16 (pv 1) (pv 3) (fun _ _ => rfl)) pa_nil)))))) (pss_one (ps_ret (pv 2))))), ?_⟩
  refine fun d hd => ⟨by show 0 ≤ sizeLine; decide, fun l hl2 => ⟨_, _, rfl, ?_⟩⟩
  have k1 : Keep [] H (upd H d (dN P w d [])) := keep_new hd
  have k2 : Keep [] H (upd (upd H d (dN P w d [])) l (.lst [])) := k1.new hl2
  have hld : l ≠ d := fun q => by subst q; rw [upd_same] at hl2; cases hl2
  refine ⟨_, rfl, a, rfl, ⟨_, SqL.of (k2.at_ ha)⟩, ?_⟩
  refine for_it (walk_list (xs := us)) (fun i σ H2 => (∃ u, σ = [some (.ref a), some (.ref d), some (.ref l), u]) ∧ Keep [] H H2 ∧ (∃ kvs, DN P w H2 d kvs ∧ kvs.map (·.1) = dd (ks.take i) ∧ ∀ j e, kvs[j]? = some e → e.2.2 = nV j) ∧ H2 l = some (.lst ((numd (ks.take i)).map nV)))
    ⟨⟨_, rfl⟩, k2, ⟨[], (DN.new).keep (keep_new hl2), rfl, fun j e h => by simp at h⟩, upd_same⟩ (fun i σ H2 _ q => SqL.of (q.2.1.at_ ha)) ?_ ?_
  · rintro i x σ H2 H3 hi ⟨⟨u, rfl⟩, k3, ⟨kvs, hdn, hk1, hk2⟩, hl3⟩ ⟨rfl, ex⟩
    obtain ⟨k, ek, b, rfl, hkv, hdp⟩ := paired_get hp ex
    have hkv3 := hkv.ext k3.ext0
    obtain ⟨v1, v2⟩ := valN_in (k := k) hk1 hk2
    have hdl : (dd (ks.take i)).length ≤ 1000 := by
      have h1 : ∀ (ks acc : List NestedKey), (ks.foldl ddS acc).length ≤ acc.length + ks.length := by
        intro ks
        induction ks with
        | nil => intro acc; simp
        | cons k ks ih =>
          intro acc
          rw [List.foldl_cons]
          have h1 := ih (ddS acc k)
          have h2 : (ddS acc k).length ≤ acc.length + 1 := by
            unfold ddS
            split
            · omega
            · simp
          rw [List.length_cons]
          omega
      have h2 := h1 (ks.take i) []
      rw [List.length_take] at h2
      simp only [List.length_nil] at h2
      unfold dd
      omega
    have hkl : kvs.length ≤ 1000 := by rw [← hk1, List.length_map] at hdl; exact hdl
    have et : ks.take (i + 1) = ks.take i ++ [k] := take_snoc ek
    have rest : ∀ (H4 : Hp) (kvs' : List Ent), Keep [d] H3 H4 → Keep [] H H4 → DN P w H4 d kvs' → kvs'.map (·.1) = dd (ks.take (i + 1)) → (∀ j e, kvs'[j]? = some e → e.2.2 = nV j) → KeyV H4 k (.ref b) →
        tBM K "list" rAppend (tVar 2) (tCons (tOp (rGetN P w) (tVar 1) (tVar 3)) tNil) [some (.ref a), some (.ref d), some (.ref l), some (.ref b)] H4 fun _ H5 =>
          (∃ u, [some (V.ref a), some (.ref d), some (.ref l), some (.ref b)] = [some (.ref a), some (.ref d), some (.ref l), u]) ∧ Keep [] H H5 ∧ (∃ kvs, DN P w H5 d kvs ∧ kvs.map (·.1) = dd (ks.take (i + 1)) ∧ ∀ j e, kvs[j]? = some e → e.2.2 = nV j) ∧ H5 l = some (.lst ((numd (ks.take (i + 1))).map nV)) := by
      intro H4 kvs' k4 k5 hd4 q1 q2 q3
      have hl4 : H4 l = some (.lst ((numd (ks.take i)).map nV)) := k4.at1 hld hl3
      obtain ⟨w1, _⟩ := valN_in (k := k) q1 q2
      have hmem : k ∈ dd (ks.take (i + 1)) := by rw [et, dd_snoc]; exact mem_ddS.mpr (.inr rfl)
      refine ⟨_, rfl, .inl ⟨rfl, _, SqL.of hl4⟩, ?_⟩
      refine ⟨_, rfl, _, rfl, d, b, kvs', k, _, rfl, rfl, hd4, q3, hdp, w1 hmem, ?_⟩
      have hln : ((numd (ks.take i)).map nV).length ≤ 1000 := by
        rw [List.length_map, numd_length, List.length_take]
        omega
      refine ⟨l, _, _, rfl, rfl, hl4, small_line (by omega), ⟨_, rfl⟩, k5.upd0 (none_of k1 hl2), ⟨kvs', ⟨?_, fun p hp => ⟨(hd4.keys p hp).1.ext (ext_updl hl4 (by intro xs z; cases z)), (hd4.keys p hp).2⟩⟩, q1, q2⟩, ?_⟩
      · rw [upd_ne hld.symm]
        exact hd4.at_
      · rw [upd_same, et, numd_snoc, dd_snoc, List.map_append]
        rfl
    refine ⟨_, rfl, d, kvs, rfl, hdn, _, rfl, _, rfl, d, kvs, rfl, hdn, kvs, k, b, rfl, hdn, hkv3, hdp, small_line (by omega), fun v hv => ?_, fun hn => ?_⟩
    · have hin : k ∈ dd (ks.take i) := Classical.byContradiction fun no => by rw [v2 no] at hv; cases hv
      refine rest _ kvs (Keep.refl _ _) k3 hdn ?_ hk2 hkv3
      rw [hk1, et, dd_snoc]
      unfold ddS
      rw [if_pos hin]
    · have hin : k ∉ dd (ks.take i) := fun q => by rw [v1 q] at hn; cases hn
      have e3 : Ext H3 (upd H3 d (dN P w d (kvs ++ [(k, b, nV kvs.length)]))) := ext_updl hdn.at_ (by intro xs z; cases z)
      refine rest _ (kvs ++ [(k, b, nV kvs.length)]) ((Keep.refl _ _).updm (List.mem_singleton.mpr rfl)) (k3.upd0 hd) ⟨upd_same, fun p hp => ?_⟩ ?_ ?_ (hkv3.ext e3)
      · rcases List.mem_append.mp hp with hp | hp
        · exact ⟨(hdn.keys p hp).1.ext e3, (hdn.keys p hp).2⟩
        · cases List.mem_singleton.mp hp
          exact ⟨hkv3.ext e3, hdp⟩
      · rw [List.map_append, hk1, et, dd_snoc]
        unfold ddS
        rw [if_neg hin]
        rfl
      · intro j e he
        rw [List.getElem?_append] at he
        split at he
        · exact hk2 j e he
        · rename_i hj
          have : j - kvs.length = 0 := by
            cases h : j - kvs.length with
            | zero => rfl
            | succ n => rw [h] at he; simp at he
          rw [this] at he
          cases Option.some.inj he
          have : j = kvs.length := by omega
          subst this
          rfl
  · rintro σ H2 ⟨⟨u, rfl⟩, k3, _, hl3⟩
    rw [List.take_of_length_le (by omega)] at hl3
    exact ⟨_, rfl, hQ _ l k3 (none_of k1 hl2) hl3⟩
theorem first_depth : ∀ n : Nd, (firstKey n).depth ≤ 8
  | .sc t x => by simp [firstKey, NestedKey.depth, NestedKey.depthAll]
  | .sq t xs => by simp [firstKey, kn, NestedKey.depth, NestedKey.depthAll]
  | .mp t es => by simp [firstKey, NestedKey.depth, NestedKey.depthAll]
theorem w_first_key (T : Txt K mg) (D : Dn K mg "first_key" s_first_key) : Cl P w K mg base 1 "first_key" spFirst := by
  refine cl_of D sc_first_key (fun vs H Q E h => ?_) (fun _ _ _ _ _ _ us hl => match us, hl with | [_], _ => rfl) fun f cdv A outer s H vs Q E hr h => ?_
  · obtain ⟨v, n, rfl, _⟩ := h
    rfl
  obtain ⟨v, n, rfl, ⟨a, c, rfl, ha, hc⟩, hl, hQ⟩ := h
  refine ⟨_, PSs.nox (pss_cons (ps_asg (pv 0) (pg_tup (by rfl) (pgs_cons (pg_name (i := 1) sc_first_key.nd rfl (Or.inl rfl)) (pgs_cons (pg_name (i := 2) sc_first_key.nd rfl (Or.inl rfl)) (pgs_cons (pg_name (i := 3) sc_first_key.nd rfl (Or.inl rfl)) pgs_nil))))) (pss_cons (ps_if (pt_cmpR op_eq (pv 1) pe_str (nomark _)) (pss_one (ps_ret (pe_tup (pa_cons (pv 1) (pa_cons (pv 2) (pa_cons (pe_callB call_len (by rfl) T.len_ PySem.boot_len (pa_cons (pv 3) pa_nil)) pa_nil)))))) pss_nil) (pss_one (ps_ret (pe_tup (pa_cons (pv 1) (pa_cons (pv 2) (pa_cons (pe_ifExp (pt_cmpR op_eq (pv 1) pe_str (nomark _)) (pv 3) pe_non) pa_nil)))))))), ?_⟩
  refine ⟨_, rfl, a, _, rfl, SqT.of ha, rfl, _, _, rfl, _, _, rfl, _, _, rfl, rfl, ?_⟩
  cases n with
  | sc t x =>
    obtain rfl : c = .str x := hc
    refine ⟨_, rfl, rfl, _, rfl, iteF ?_⟩
    refine ⟨_, rfl, _, rfl, _, rfl, rfl, _, rfl, iteT ⟨_, rfl, (by show 3 ≤ sizeLine; decide), fun p hp => ?_⟩⟩
    exact hQ _ _ (keep_new hp) ⟨p, rfl, .tup upd_same (.cons (.text _) (.cons (.text _) (.cons (.text _) .nil))), first_depth (.sc t x)⟩
  | sq t xs =>
    obtain ⟨q, rfl, hx⟩ := hc
    refine ⟨_, rfl, rfl, _, rfl, iteT ?_⟩
    refine ⟨_, rfl, _, rfl, _, rfl, _, xs.length, rfl, .inr ⟨_, SqT.of hx, by rw [List.length_map]⟩, (by show 3 ≤ sizeLine; decide), fun p hp => ?_⟩
    exact hQ _ _ (keep_new hp) ⟨p, rfl, .tup upd_same (.cons (.text _) (.cons (.text _) (.cons (.num _) .nil))), first_depth (.sq t xs)⟩
  | mp t es =>
    obtain ⟨q, us, rfl, hx, hpp⟩ := hc
    refine ⟨_, rfl, rfl, _, rfl, iteF ?_⟩
    refine ⟨_, rfl, _, rfl, _, rfl, rfl, _, rfl, iteF ⟨(by show 3 ≤ sizeLine; decide), fun p hp => ?_⟩⟩
    exact hQ _ _ (keep_new hp) ⟨p, rfl, .tup upd_same (.cons (.text _) (.cons (.text _) (.cons .none .nil))), first_depth (.mp t es)⟩
end
end Ap
set_option Elab.async false
set_option linter.all false
set_option maxRecDepth 100000
set_option maxHeartbeats 4000000
namespace Ap
open PySem PySem.Spec PyProof.Rows L2
abbrev N_next_key : List Str := ["node", "own", "classes", "kind", "tag", "content", "pairs", "number", "key", "value"]
theorem sc_next_key : FnScope N_next_key ["node", "own", "classes"] (defScope s_next_key) := ⟨rfl, rfl, rfl, by decide +kernel, rfl, by decide +kernel, by decide +kernel⟩

abbrev N_rounds_of : List Str := ["nodes", "found", "classes", "later", "node", "own"]
theorem sc_rounds_of : FnScope N_rounds_of ["nodes"] (defScope s_rounds_of) := ⟨rfl, rfl, rfl, by decide +kernel, rfl, by decide +kernel, by decide +kernel⟩

def spNext : Sp := fun vs H Q _ => ∃ (v : V) (n : Nd) (own : Nat) (c : Addr) (cs : List Nat), vs = [v, nV own, .ref c] ∧ NdV H v n ∧ n.len ≤ 4 ∧ H c = some (.lst (cs.map nV)) ∧ n.below cs.length ∧ ∀ H' v', Keep [] H H' → KeyT H' v' (nextKey own cs n) → Q v' H'
section
variable {P : Program} {w : World} {K : PySem.W.Frag} {mg : Str → Option Value} {base : Heap}
theorem nat_bound : ∀ cs : List Nat, ∃ B : Nat, ∀ c ∈ cs, c < B
  | [] => ⟨0, fun c h => by simp at h⟩
  | c :: cs => by
    obtain ⟨B, h⟩ := nat_bound cs
    refine ⟨max B (c + 1), fun x hx => ?_⟩
    rcases List.mem_cons.mp hx with rfl | hx
    · omega
    · have := h x hx
      omega
theorem at_mem {cs : List Nat} {i : Nat} (h : i < cs.length) : at_ cs i ∈ cs := List.mem_of_getElem? (at_get h)
theorem at_atI {cs : List Nat} {i : Nat} (h : i < cs.length) : atI (cs.map nV) (i : Int) = some (nV (at_ cs i)) := atI_nat (by rw [List.getElem?_map, at_get h]; rfl)
theorem keyAll_nums {H : Hp} {f : Nat → Nat} : ∀ xs : List Nat, KeyAll H (xs.map fun x => kn (f x)) (xs.map fun x => nV (f x))
  | [] => .nil
  | x :: xs => .cons (.num _) (keyAll_nums xs)
theorem keyAll_pairs {H : Hp} : ∀ {ts : List Addr} {ps : List (Nat × Nat)}, Paired (fun (t : Addr) (q : Int × Int) => H t = some (.tup [.int q.1, .int q.2])) ts (ps.map castP) → KeyAll H (ps.map fun p => .tup [kn p.1, kn p.2]) (ts.map V.ref)
  | [], [], _ => .nil
  | t :: ts, p :: ps, .cons h r => .cons (.tup h (.cons (.num _) (.cons (.num _) .nil))) (keyAll_pairs r)
theorem depthAll_le {n : Nat} : ∀ ks : List NestedKey, (∀ k ∈ ks, k.depth ≤ n) → NestedKey.depthAll ks ≤ n
  | [], _ => Nat.zero_le _
  | k :: ks, h => by
    rw [NestedKey.depthAll]
    exact Nat.max_le.mpr ⟨h k (List.mem_cons_self ..), depthAll_le ks fun x hx => h x (List.mem_cons_of_mem _ hx)⟩
theorem two_depth {a : Nat} {ks : List NestedKey} (h : ∀ k ∈ ks, k.depth ≤ 1) : (NestedKey.tup [kn a, .tup ks]).depth ≤ 8 := by
  have := depthAll_le ks h
  simp only [kn, NestedKey.depth, NestedKey.depthAll]
  omega
theorem next_depth (own : Nat) (c : List Nat) : ∀ n : Nd, (nextKey own c n).depth ≤ 8
  | .sc _ _ => two_depth fun k h => by simp at h
  | .sq _ xs => two_depth fun k h => by
    obtain ⟨x, _, rfl⟩ := List.mem_map.mp h
    exact Nat.zero_le _
  | .mp _ es => two_depth fun k h => by
    obtain ⟨x, _, rfl⟩ := List.mem_map.mp h
    simp [kn, NestedKey.depth, NestedKey.depthAll]
theorem w_next_key (T : Txt K mg) (D : Dn K mg "next_key" s_next_key) : Cl P w K mg base 1 "next_key" spNext := by
  refine cl_of D sc_next_key (fun vs H Q E h => ?_) (fun _ _ _ _ _ _ us hl => match us, hl with | [_, _, _], _ => rfl) fun f cdv A outer s H vs Q E hr h => ?_
  · obtain ⟨v, n, own, c, cs, rfl, _⟩ := h
    rfl
  obtain ⟨v, n, own, c, cs, rfl, ⟨a, ct, rfl, ha, hct⟩, hl, hcs, hb, hQ⟩ := h
  have hu := hu_of hr
  refine ⟨_, PSs.nox (pss_cons (ps_asg (pv 0) (pg_tup (by rfl) (pgs_cons (pg_name (i := 3) sc_next_key.nd rfl (Or.inl rfl)) (pgs_cons (pg_name (i := 4) sc_next_key.nd rfl (Or.inl rfl)) (pgs_cons (pg_name (i := 5) sc_next_key.nd rfl (Or.inl rfl)) pgs_nil))))) (pss_cons (ps_if (pt_cmpR op_eq (pv 3) pe_str (nomark _)) (pss_one (ps_ret (pe_tup (pa_cons (pv 1) (pa_cons (pe_callTy call_tuple_of (by rfl) T.tuple_ PyProof.Rows.boot_tuple (pa_cons (pe_lc (own := [("number", 7)]) (g := (gName 7)) (tt := tYes) rfl sc_next_key.nd (pi_tup (pv 5)) (blkOk_by (own := [("number", 7)]) (N := N_next_key) (sc := (defScope s_next_key)) (by decide +kernel)) (fun _ _ _ _ _ => (pg_name (i := 7) sc_next_key.nd rfl (Or.inl rfl))) (fun _ _ _ _ _ => pts_nil) (fun _ _ _ _ _ => (pe_ix (kIxL (K := K) rfl) (pv 2) (pv 7) (fun _ _ => rfl)))) pa_nil)) pa_nil))))) pss_nil) (pss_cons (ps_if (pt_cmpR op_eq (pv 3) pe_str (nomark _)) (pss_cons (ps_setDcT (i := 6) (own := [("key", 8), ("value", 9)]) (g := (gTup K 2 (gCons (gName 8) (gCons (gName 9) gNil)))) (tt := tYes) hu rfl sc_next_key.nd rfl rfl (sw_trueD rfl rfl rfl (by decide +kernel)) (pi_tup (pv 5)) (blkOk_by (own := [("key", 8), ("value", 9)]) (N := N_next_key) (sc := (defScope s_next_key)) (by decide +kernel)) (fun _ _ _ _ _ => (pg_tup (by rfl) (pgs_cons (pg_name (i := 8) sc_next_key.nd rfl (Or.inl rfl)) (pgs_cons (pg_name (i := 9) sc_next_key.nd rfl (Or.inl rfl)) pgs_nil)))) (fun _ _ _ _ _ => pts_nil) (fun _ _ _ _ _ => (pe_tup (pa_cons (pe_ix (kIxL (K := K) rfl) (pv 2) (pv 8) (fun _ _ => rfl)) (pa_cons (pe_ix (kIxL (K := K) rfl) (pv 2) (pv 9) (fun _ _ => rfl)) pa_nil)))) (fun _ _ _ _ _ => pe_bl)) (pss_one (ps_ret (pe_tup (pa_cons (pv 1) (pa_cons (pe_callTy call_tuple_of (by rfl) T.tuple_ PyProof.Rows.boot_tuple (pa_cons (pe_callB (cr_sortDT rfl) (by rfl) T.sorted_ PyProof.Rows.boot_sorted (pa_cons (pv 6) pa_nil)) pa_nil)) pa_nil)))))) pss_nil) (pss_one (ps_ret (pe_tup (pa_cons (pv 1) (pa_cons (pe_tup pa_nil) pa_nil)))))))), ?_⟩
  refine ⟨_, rfl, a, _, rfl, SqT.of ha, rfl, _, _, rfl, _, _, rfl, _, _, rfl, rfl, ?_⟩
  cases n with
  | sc t x =>
    obtain rfl : ct = .str x := hct
    refine ⟨_, rfl, rfl, _, rfl, iteF ?_⟩
    refine ⟨_, rfl, rfl, _, rfl, iteF ?_⟩
    refine ⟨_, rfl, (by show 0 ≤ sizeLine; decide), fun p hp => ⟨(by show 2 ≤ sizeLine; decide), fun q hq => ?_⟩⟩
    exact hQ _ _ ((keep_new hp).new hq) ⟨q, rfl, .tup upd_same (.cons (.num _) (.cons (.tup ((keep_new (ex := []) hq).at_ upd_same) .nil) .nil)), next_depth own cs (.sc t x)⟩
  | sq t xs =>
    obtain ⟨q, rfl, hx⟩ := hct
    refine ⟨_, rfl, rfl, _, rfl, iteT ?_⟩
    refine ⟨_, rfl, _, rfl, q, rfl, ⟨_, SqT.of hx⟩, fun D hD => ?_⟩
    refine lc_it (walk_tup (xs := xs.map nV)) (Gath _ [] J0 D xs (fun x => some (at_ cs x)) (fun _ v z => v = nV z)) (gath0 hD trivial) (fun _ H _ p => SqT.of (p.keep.at_ hx)) ?_ ?_
    · rintro i x H2 H3 hi p ⟨rfl, e⟩
      obtain ⟨k, hk, rfl⟩ := map_get e
      refine ⟨rfl, yes_ ?_⟩
      refine ⟨_, rfl, _, rfl, c, _, _, _, rfl, rfl, SqL.of (p.keep.at_ hcs), at_atI (hb k (List.mem_of_getElem? hk)), ?_⟩
      exact p.yes gx_flat hD hk (small_line (by have : xs.length ≤ 4 := hl; omega)) (Keep.refl _ _) trivial rfl rfl
    · intro H2 p
      obtain ⟨k, _, ys, hy, hp⟩ := p.all (by rw [List.length_map])
      rw [fm_some] at hp
      rw [paired_eq hp, List.map_map] at hy
      refine ⟨D, _, rfl, .inl ⟨SqL.of hy, fun l hl2 => ?_⟩⟩
      refine ⟨(by show 2 ≤ sizeLine; decide), fun p2 hp2 => hQ _ _ ((k.new hl2).new hp2) ⟨p2, rfl, .tup upd_same (.cons (.num _) (.cons (.tup ((keep_new (ex := []) hp2).at_ upd_same) (keyAll_nums xs)) .nil)), next_depth own cs (.sq t xs)⟩⟩
  | mp t es =>
    obtain ⟨q, us, rfl, hx, hpp⟩ := hct
    refine ⟨_, rfl, rfl, _, rfl, iteF ?_⟩
    refine ⟨_, rfl, rfl, _, rfl, iteT ?_⟩
    refine ⟨_, rfl, q, rfl, ⟨_, SqT.of hx⟩, fun D hD => ?_⟩
    have hul : us.length = es.length := paired_len hpp
    have hl4 : es.length ≤ 4 := hl
    refine dc_it (walk_tup (xs := us)) (fun i H2 => Keep [] H H2 ∧ ∃ kvs, H2 D = some (.dT kvs) ∧ kvs.map (·.1) = (dd ((es.take i).map fun e => (at_ cs e.1, at_ cs e.2))).map keyOf) ⟨keep_new hD, [], upd_same, rfl⟩ (fun _ H _ p => SqT.of (p.1.at_ hx)) ?_ ?_
    · rintro i x H2 H3 hi ⟨k, kvs, hd, hk⟩ ⟨rfl, e⟩
      obtain ⟨y, hy, pv⟩ := paired_get hpp e
      obtain ⟨z, rfl, hz⟩ := pv.ext k.ext0
      obtain ⟨b1, b2⟩ := hb y (List.mem_of_getElem? hy)
      refine ⟨z, _, rfl, SqT.of hz, rfl, _, _, rfl, _, _, rfl, rfl, rfl, yes_ ?_⟩
      refine ⟨_, rfl, _, rfl, c, _, _, _, rfl, rfl, SqL.of (k.at_ hcs), at_atI b1, ?_⟩
      refine ⟨_, rfl, _, rfl, c, _, _, _, rfl, rfl, SqL.of (k.at_ hcs), at_atI b2, (by show 2 ≤ sizeLine; decide), fun p hp => ?_⟩
      have hkl : kvs.length ≤ 4 := by
        have h1 := congrArg List.length hk
        rw [List.length_map, List.length_map] at h1
        have h2 := dd_len ((es.take i).map fun e => (at_ cs e.1, at_ cs e.2))
        rw [List.length_map, List.length_take] at h2
        omega
      refine ⟨kvs, keyOf (at_ cs y.1, at_ cs y.2), p, rfl, upd_same, (keep_new (ex := []) hp).at_ hd, small_line (by omega), (k.new hp).upd0 hD, _, upd_same, ?_⟩
      rw [putK_keys, hk, take_snoc hy, List.map_append, ddS_map]
      show _ = (dd (_ ++ [_])).map keyOf
      rw [dd_snoc]
    · rintro H2 ⟨k, kvs, hd, hk⟩
      rw [List.take_of_length_le (by omega)] at hk
      obtain ⟨B, hB⟩ := nat_bound cs
      have hkl : kvs.length ≤ 4 := by
        have h1 := congrArg List.length hk
        rw [List.length_map, List.length_map] at h1
        have h2 := dd_len (es.map fun e => (at_ cs e.1, at_ cs e.2))
        rw [List.length_map] at h2
        omega
      refine ⟨_, rfl, _, rfl, D, kvs, (B : Int), rfl, .inl hd, by omega, fun p hp => ?_, fun ts qs l hts hperm hsort hl2 => ?_⟩
      · have h1 : p.1 ∈ kvs.map (·.1) := List.mem_map.mpr ⟨p, hp, rfl⟩
        rw [hk] at h1
        obtain ⟨u, hu1, hu2⟩ := List.mem_map.mp h1
        obtain ⟨y, hy1, hy2⟩ := List.mem_map.mp (mem_dd.mp hu1)
        obtain ⟨b1, b2⟩ := hb y hy1
        refine ⟨u.1, u.2, hu2.symm, fun m hm => ?_⟩
        have c1 := hB _ (at_mem b1)
        have c2 := hB _ (at_mem b2)
        rw [← hy2] at hm
        simp only [List.mem_cons, List.not_mem_nil, or_false] at hm
        rcases hm with rfl | rfl <;> constructor <;> omega
      · have e2 : qs = (sortP (es.map fun e => (at_ cs e.1, at_ cs e.2))).map castP := by
          refine sort_uniq (hperm.trans ?_) hsort
          have : kvs.map (fun p => pairK p.1) = (kvs.map (·.1)).map pairK := by rw [List.map_map]; rfl
          rw [this, hk, List.map_map]
          exact List.Perm.refl _
        rw [e2] at hts
        refine ⟨l, _, rfl, .inl ⟨SqL.of upd_same, fun l3 hl3 => ?_⟩⟩
        have k2 : Keep [] H2 (upd (upd H2 l (.lst (ts.map V.ref))) l3 (.tup (ts.map V.ref))) := (keep_new hl2).new hl3
        refine ⟨(by show 2 ≤ sizeLine; decide), fun p2 hp2 => hQ _ _ ((k.trans k2).new hp2) ⟨p2, rfl, .tup upd_same (.cons (.num _) (.cons (.tup ((keep_new (ex := []) hp2).at_ upd_same) (keyAll_pairs (Paired.mapP hts fun t q h => ?_))) .nil)), next_depth own cs (.mp t es)⟩⟩
        exact (k2.new hp2).at_ h
/-- the object at v, not F, is the list of c -/
def RL (F : Addr) (H : Hp) (v : V) (c : List Nat) : Prop := ∃ l, v = .ref l ∧ l ≠ F ∧ H l = some (.lst (c.map nV))
theorem RL.keep {F : Addr} {H H' : Hp} {v : V} {c : List Nat} (h : RL F H v c) (k : Keep [] H H') : RL F H' v c := by
  obtain ⟨l, h1, h2, h3⟩ := h
  exact ⟨l, h1, h2, k.at_ h3⟩
def SmallR (ns : List Nd) : Prop := ns.length ≤ 200 ∧ ∀ n ∈ ns, n.len ≤ 4 ∧ n.below ns.length
def spRounds : Sp := fun vs H Q _ => ∃ (a : Addr) (us : List V) (ns : List Nd), vs = [.ref a] ∧ H a = some (.lst us) ∧ Paired (NdV H) us ns ∧ SmallR ns ∧
  ∀ H' F ls, Keep [] H H' → H F = none → H' F = some (.lst ls) → Paired (RL F H') ls ((List.range (lastR ns + 1)).map (clsAt ns)) → Q (.ref F) H'
theorem paired_last {α β : Type} {R : α → β → Prop} {x : β} : ∀ {xs : List β} {vs : List α}, Paired R vs (xs ++ [x]) → ∃ vs' v, vs = vs' ++ [v] ∧ R v x
  | [], _, .cons q .nil => ⟨[], _, rfl, q⟩
  | _ :: xs, _, .cons q t => by
    obtain ⟨vs', v, e, r⟩ := paired_last t
    exact ⟨_ :: vs', v, by rw [e]; rfl, r⟩
theorem w_rounds_of (T : Txt K mg) (c_numbered : Cl P w K mg base 1 "numbered" spNumd) (c_first_key : Cl P w K mg base 1 "first_key" spFirst) (c_next_key : Cl P w K mg base 1 "next_key" spNext) (D : Dn K mg "rounds_of" s_rounds_of) : Cl P w K mg base 2 "rounds_of" spRounds := by
  refine cl_of D sc_rounds_of (fun vs H Q E h => ?_) (fun _ _ _ _ _ _ us hl => match us, hl with | [_], _ => rfl) fun f cdv A outer s H vs Q E hr h => ?_
  · obtain ⟨a, us, ns, rfl, _⟩ := h
    rfl
  obtain ⟨a, us, ns, rfl, ha, hp, ⟨h200, hok⟩, hQ⟩ := h
  have hul : us.length = ns.length := paired_len hp
  refine ⟨_, PSs.nox (pss_cons (ps_set (i := 1) sc_rounds_of.nd rfl (Or.inl rfl) (pe_lst (pa_cons (pe_cl c_numbered hr (by decide) rfl (pa_cons (pe_lc (own := [("node", 4)]) (g := (gName 4)) (tt := tYes) rfl sc_rounds_of.nd (pi_list (pv 0)) (blkOk_by (own := [("node", 4)]) (N := N_rounds_of) (sc := (defScope s_rounds_of)) (by decide +kernel)) (fun _ _ _ _ _ => (pg_name (i := 4) sc_rounds_of.nd rfl (Or.inl rfl))) (fun _ _ _ _ _ => pts_nil) (fun _ _ _ _ _ => (pe_cl c_first_key hr (by decide) rfl (pa_cons (pv 4) pa_nil)))) pa_nil)) pa_nil))) (pss_one (ps_while PassesOwn.never (pt_val pe_bl) (pss_cons (ps_set (i := 2) sc_rounds_of.nd rfl (Or.inr rfl) (pe_ix ix_list (pv 1) (pe_un un_neg pe_int) (fun _ _ => rfl))) (pss_cons (ps_set (i := 3) sc_rounds_of.nd rfl (Or.inl rfl) (pe_cl c_numbered hr (by decide) rfl (pa_cons (pe_lc (own := [("node", 4), ("own", 5)]) (g := (gTup K 2 (gCons (gName 4) (gCons (gName 5) gNil)))) (tt := tYes) rfl sc_rounds_of.nd (RZ.pi_zipA (by rfl) T.zip_ (pa_cons (pv 0) (pa_cons (pv 2) pa_nil))) (blkOk_by (own := [("node", 4), ("own", 5)]) (N := N_rounds_of) (sc := (defScope s_rounds_of)) (by decide +kernel)) (fun _ _ _ _ _ => (pg_tup (by rfl) (pgs_cons (pg_name (i := 4) sc_rounds_of.nd rfl (Or.inl rfl)) (pgs_cons (pg_name (i := 5) sc_rounds_of.nd rfl (Or.inl rfl)) pgs_nil)))) (fun _ _ _ _ _ => pts_nil) (fun _ _ _ _ _ => (pe_cl c_next_key hr (by decide) rfl (pa_cons (pv 4) (pa_cons (pv 5) (pa_cons (pv 2) pa_nil)))))) pa_nil))) (pss_cons (ps_if (pt_cmpR (op_eqD hr.units) (pv 3) (pv 2) (nomark _)) (pss_one (ps_ret (pv 1))) pss_nil) (pss_one (ps_expr (pe_bm PySem.F.plainAttrs_list PySem.F.slot_list_append PySem.F.type_list_append mt_append (pv 1) (pa_cons (pv 3) pa_nil)))))))))), ?_⟩
  refine ⟨_, rfl, a, rfl, ⟨_, SqL.of ha⟩, fun D0 hD0 => ?_⟩
  refine lc_it (walk_list (xs := us)) (Gath H [] J0 D0 ns (fun n => some (firstKey n)) KeyT) (gath0 hD0 trivial) (fun _ H _ p => SqL.of (p.keep.at_ ha)) ?_ ?_
  · rintro i x H2 H3 hi p ⟨rfl, e⟩
    obtain ⟨nd, hn, hv⟩ := paired_get hp e
    refine ⟨rfl, yes_ ?_⟩
    refine ⟨_, rfl, x, nd, rfl, hv.ext p.keep.ext0, (hok nd (List.mem_of_getElem? hn)).1, fun H4 v4 k4 hk => ?_⟩
    exact p.yes (gx0 fun H H' v b k e h => h.ext e) hD0 hn (small_line (by omega)) k4 trivial rfl hk
  intro H1 p
  obtain ⟨k1, _, ys, hy, hq⟩ := p.all hul
  rw [fm_some] at hq
  refine ⟨D0, ys, _, rfl, hy, hq, by rw [List.length_map]; omega, fun H2 p0 k2 hp0 hp0' => ?_⟩
  refine ⟨(by show 1 ≤ sizeLine; decide), fun F hF => ?_⟩
  have k3 := (k1.trans k2).new (o := .lst [.ref p0]) hF
  have hF0 : H F = none := none_of (k1.trans k2) hF
  refine ⟨fun m σ H3 => ∃ i, m = tog (clsAt ns i) ∧ (∀ j, j < i → clsN ns (clsAt ns j) ≠ clsAt ns j) ∧ Keep [] H H3 ∧ (∃ ls, H3 F = some (.lst ls) ∧ Paired (RL F H3) ls ((List.range (i + 1)).map (clsAt ns))) ∧ ∃ u1 u2, σ = [some (.ref a), some (.ref F), u1, u2, none, none],
    ⟨_, 0, rfl, fun j hj => absurd hj (Nat.not_lt_zero _), k3, ⟨_, upd_same, .cons ⟨p0, rfl, ne_of_none hp0' hF, (keep_new (ex := []) hF).at_ hp0'⟩ .nil⟩, _, _, rfl⟩, ?_⟩
  rintro m σ H3 ⟨i, rfl, hlt, k, ⟨ls, hls, hpl⟩, u1, u2, rfl⟩
  refine ⟨_, rfl, iteT ⟨fun σ' H' => ∃ j, tog (clsAt ns (i + 1)) = tog (clsAt ns j) ∧ j = i + 1 ∧ clsN ns (clsAt ns i) ≠ clsAt ns i ∧ Keep [] H H' ∧ (∃ ls, H' F = some (.lst ls) ∧ Paired (RL F H') ls ((List.range (i + 1 + 1)).map (clsAt ns))) ∧ ∃ u1 u2, σ' = [some (.ref a), some (.ref F), u1, u2, none, none], ?_, ?_⟩⟩
  · rintro σ' H' ⟨j, e, rfl, hne, hk, hl, hs⟩
    refine ⟨_, round_less hne, i + 1, rfl, fun j hj => ?_, hk, hl, hs⟩
    rcases Nat.lt_succ_iff_lt_or_eq.mp hj with hj | rfl
    · exact hlt j hj
    · exact hne
  have hpl' := hpl
  rw [List.range_succ, List.map_append] at hpl'
  obtain ⟨ls', v, els, c, rfl, hcF, hc⟩ := paired_last hpl'
  refine ⟨_, rfl, _, rfl, F, ls, _, _, rfl, rfl, SqL.of hls, (by rw [els]; exact atI_last _ _), ?_⟩
  refine ⟨_, rfl, _, rfl, a, c, us, _, rfl, .inl ⟨SqL.of (k.at_ ha), SqL.of hc, fun D1 hD1 => ?_⟩⟩
  have hcl : (clsAt ns i).length = ns.length := clsAt_len ns i
  have hzl : (ns.zip (clsAt ns i)).length = ns.length := by rw [List.length_zip, hcl, Nat.min_self]
  refine lc_it (walk_zip (xs := us) (ys := (clsAt ns i).map nV) (n := ns.length) (by rw [List.length_map, hcl, hul, Nat.min_self])) (Gath H3 [] J0 D1 (ns.zip (clsAt ns i)) (fun q => some (nextKey q.2 (clsAt ns i) q.1)) KeyT) (gath0 hD1 trivial)
    (fun _ H _ p => ⟨SqL.of ((k.trans p.keep).at_ ha), SqL.of (p.keep.at_ hc)⟩) ?_ ?_
  · rintro j x H4 H5 hj p ⟨t, x1, x2, rfl, ht, rfl, e1, e2⟩
    obtain ⟨nd, hn, hv⟩ := paired_get hp e1
    obtain ⟨own, ho, rfl⟩ := map_get e2
    refine ⟨t, _, rfl, SqT.of upd_same, rfl, _, _, rfl, _, _, rfl, rfl, rfl, yes_ ?_⟩
    have kt : Keep [] H4 (upd H4 t (.tup [x1, nV own])) := keep_new ht
    have kk := p.keep.trans kt
    refine ⟨_, rfl, _, rfl, _, rfl, x1, nd, own, c, clsAt ns i, rfl, hv.ext (k.trans kk).ext0, (hok nd (List.mem_of_getElem? hn)).1, kk.at_ hc, by rw [hcl]; exact (hok nd (List.mem_of_getElem? hn)).2, fun H6 v6 k6 hk6 => ?_⟩
    have ez : (ns.zip (clsAt ns i))[j]? = some (nd, own) := List.getElem?_zip_eq_some.mpr ⟨hn, ho⟩
    exact p.yes (gx0 fun H H' v b k e h => h.ext e) hD1 ez (small_line (by omega)) (kt.trans k6) trivial rfl hk6
  intro H4 p
  obtain ⟨k4, _, ys4, hy4, hq4⟩ := p.all (by rw [hzl])
  rw [fm_some] at hq4
  refine ⟨D1, ys4, _, rfl, hy4, hq4, by rw [List.length_map]; omega, fun H5 q k5 hq5 hq5' => ?_⟩
  have k6 := k4.trans k5
  have hq5'' : H5 q = some (.lst ((clsN ns (clsAt ns i)).map nV)) := hq5'
  refine ⟨_, rfl, _, rfl, _, _, dp_nats (SqL.of hq5''), dp_nats (SqL.of (k6.at_ hc)), dNs_shaped _, dNs_shaped _, _, rfl, ?_⟩
  rw [dNs_eqv]
  by_cases e : clsN ns (clsAt ns i) = clsAt ns i
  · rw [decide_eq_true e]
    refine iteT ⟨_, rfl, hQ H5 F ls (k.trans k6) hF0 (k6.at_ hls) ?_⟩
    have el : lastR ns = i := stop_uniq (lastR_stop ns) ⟨e, hlt⟩
    rw [el]
    exact Paired.mapP hpl fun v c h => h.keep k6
  · rw [decide_eq_false e]
    have hqF : q ≠ F := fun z => by subst z; have := k4.at_ hls; rw [this] at hq5; cases hq5
    refine iteF ⟨_, rfl, .inl ⟨rfl, _, SqL.of (k6.at_ hls)⟩, _, rfl, F, ls, _, rfl, rfl, k6.at_ hls, ?_, i + 1, rfl, rfl, e, (k.trans k6).upd0 hF0, ⟨_, upd_same, ?_⟩, _, _, rfl⟩
    · have h1 := paired_len hpl
      rw [List.length_map, List.length_range] at h1
      have h2 := rounds_bound hlt
      have h3 : ns.length * ns.length ≤ 200 * 200 := Nat.mul_le_mul h200 h200
      exact small_line (by omega)
    · rw [List.range_succ (n := i + 1), List.map_append]
      have up : ∀ v c, RL F H5 v c → RL F (upd H5 F (.lst (ls ++ [.ref q]))) v c := fun v c ⟨l, z1, z2, z3⟩ => ⟨l, z1, z2, by rw [upd_ne z2]; exact z3⟩
      exact paired_app (up _ _ ⟨q, rfl, hqF, hq5''⟩) (Paired.mapP hpl fun v c h => up v c (h.keep k6))
end
end Ap
set_option Elab.async false
set_option linter.all false
set_option maxRecDepth 100000
set_option maxHeartbeats 4000000
namespace Ap
open PySem PySem.Spec PyProof.Rows L2
abbrev N_first_unlike : List Str := ["rounds", "one", "other", "number", "classes"]
theorem sc_first_unlike : FnScope N_first_unlike ["rounds", "one", "other"] (defScope s_first_unlike) := ⟨rfl, rfl, rfl, by decide +kernel, rfl, by decide +kernel, by decide +kernel⟩

abbrev N_apart : List Str := ["graph", "other"]
theorem sc_apart : FnScope N_apart ["graph", "other"] (defScope s_apart) := ⟨rfl, rfl, rfl, by decide +kernel, rfl, by decide +kernel, by decide +kernel⟩

abbrev N_equal : List Str := ["graph", "other"]
theorem sc_equal : FnScope N_equal ["graph", "other"] (defScope s_equal) := ⟨rfl, rfl, rfl, by decide +kernel, rfl, by decide +kernel, by decide +kernel⟩

def spUnlike : Sp := fun vs H Q _ => ∃ (F : Addr) (ls : List V) (cs : List (List Nat)) (i j : Nat), vs = [.ref F, nV i, nV j] ∧ H F = some (.lst ls) ∧ Paired (RL F H) ls cs ∧ (∀ c ∈ cs, i < c.length ∧ j < c.length) ∧
  ∀ H' v, Keep [] H H' → (v = .non ↔ ∀ c ∈ cs, at_ c i = at_ c j) → Q v H'
def spApart (C : Addr) : Sp := fun vs H Q _ => ∃ (g h : Addr) (ns ms : List Nd) (n m : Nat), vs = [.ref g, .ref h] ∧ GrAt C H g ns n ∧ GrAt C H h ms m ∧ Gok ns n ∧ Gok ms m ∧ ∀ H' v, Keep [] H H' → (v = .non ↔ eqv_ ns ms n m) → Q v H'
open Classical in
def spEqual (C : Addr) : Sp := fun vs H Q _ => ∃ (g h : Addr) (ns ms : List Nd) (n m : Nat), vs = [.ref g, .ref h] ∧ GrAt C H g ns n ∧ GrAt C H h ms m ∧ Gok ns n ∧ Gok ms m ∧ ∀ H' b, Keep [] H H' → (b = true ↔ eqv_ ns ms n m) → Q (.bl b) H'
theorem Gok.small {ns : List Nd} {n : Nat} (g : Gok ns n) : Small ns := ⟨g.len, fun x hx => (g.ok x hx).1⟩
theorem join_small {ns ms : List Nd} {n m : Nat} (g : Gok ns n) (h : Gok ms m) : SmallR (joinN ns ms) := by
  refine ⟨by rw [join_len]; have := g.len; have := h.len; omega, fun x hx => ?_⟩
  rw [join_len]
  rcases List.mem_append.mp hx with hx | hx
  · exact ⟨(g.ok x hx).1, below_mono (by omega) (g.ok x hx).2⟩
  · obtain ⟨y, hy, rfl⟩ := List.mem_map.mp hx
    exact ⟨by rw [shift_len]; exact (h.ok y hy).1, shift_below (h.ok y hy).2⟩
section
variable {P : Program} {w : World} {K : PySem.W.Frag} {mg : Str → Option Value} {base : Heap}
theorem w_first_unlike (T : Txt K mg) (D : Dn K mg "first_unlike" s_first_unlike) : Cl P w K mg base 1 "first_unlike" spUnlike := by
  refine cl_of D sc_first_unlike (fun vs H Q E h => ?_) (fun _ _ _ _ _ _ us hl => match us, hl with | [_, _, _], _ => rfl) fun f cdv A outer s H vs Q E hr h => ?_
  · obtain ⟨F, ls, cs, i, j, rfl, _⟩ := h
    rfl
  obtain ⟨F, ls, cs, i, j, rfl, hF, hp, hij, hQ⟩ := h
  have hll : ls.length = cs.length := paired_len hp
  refine ⟨_, PSs.nox (pss_cons (ps_for PassesOwn.never rfl (pi_enumA (by rfl) T.enum_ (pa_cons (pv 0) pa_nil)) (pg_tup (by rfl) (pgs_cons (pg_name (i := 3) sc_first_unlike.nd rfl (Or.inl rfl)) (pgs_cons (pg_name (i := 4) sc_first_unlike.nd rfl (Or.inl rfl)) pgs_nil))) (pss_one (ps_if (pt_cmpR op_ne (pe_ix ix_list (pv 4) (pv 1) (fun _ _ => rfl)) (pe_ix ix_list (pv 4) (pv 2) (fun _ _ => rfl)) (nomark _)) (pss_one (ps_ret (pv 3))) pss_nil))) (pss_one (ps_ret pe_non))), ?_⟩
  refine ⟨_, rfl, F, ls, rfl, .inl ⟨SqL.of hF, ?_⟩⟩
  refine for_it (walk_enum (xs := ls)) (fun k σ H2 => Keep [] H H2 ∧ (∀ c ∈ cs.take k, at_ c i = at_ c j) ∧ ∃ u1 u2, σ = [some (.ref F), some (nV i), some (nV j), u1, u2]) ⟨Keep.refl _ _, fun c hc => by simp at hc, _, _, rfl⟩ (fun k σ H2 _ q => SqL.of (q.1.at_ hF)) ?_ ?_
  · rintro k v σ H2 H3 hk ⟨k2, heq, u1, u2, rfl⟩ ⟨t, x1, x2, rfl, ht, rfl, e1, e2⟩
    cases Option.some.inj e1
    obtain ⟨c, hc, l, rfl, hlF, hl⟩ := paired_get hp e2
    obtain ⟨h1, h2⟩ := hij c (List.mem_of_getElem? hc)
    have k3 : Keep [] H (upd H2 t (.tup [.int (k : Nat), .ref l])) := k2.new ht
    refine ⟨t, _, rfl, SqT.of upd_same, rfl, _, _, rfl, _, _, rfl, rfl, ?_⟩
    refine ⟨_, rfl, _, rfl, l, _, _, _, rfl, rfl, SqL.of (k3.at_ hl), at_atI h1, ?_⟩
    refine ⟨_, rfl, _, rfl, l, _, _, _, rfl, rfl, SqL.of (k3.at_ hl), at_atI h2, rfl, _, rfl, ?_⟩
    by_cases e : at_ c i = at_ c j
    · rw [show (!decide (nV (at_ c i) = nV (at_ c j))) = false by rw [e]; simp]
      refine iteF ⟨k3, fun c' hc' => ?_, _, _, rfl⟩
      rw [take_snoc hc] at hc'
      rcases List.mem_append.mp hc' with hc' | hc'
      · exact heq c' hc'
      · rw [List.mem_singleton.mp hc']
        exact e
    · rw [show (!decide (nV (at_ c i) = nV (at_ c j))) = true by rw [decide_eq_false (fun z => e (by injection z with z; omega))]; rfl]
      refine iteT ⟨_, rfl, hQ _ _ k3 ⟨fun z => (by cases z), fun z => absurd (z c (List.mem_of_getElem? hc)) e⟩⟩
  · rintro σ H2 ⟨k2, heq, u1, u2, rfl⟩
    rw [List.take_of_length_le (by omega)] at heq
    exact hQ _ _ k2 ⟨fun _ => heq, fun _ => rfl⟩
theorem w_apart {C : Addr} (T : Txt K mg) (GG : GC K mg C) (c_require_graphs : Cl P w K mg base 1 "require_graphs" (spReq C)) (c_joined : Cl P w K mg base 2 "joined" (spJoin C)) (c_rounds_of : Cl P w K mg base 2 "rounds_of" spRounds) (c_first_unlike : Cl P w K mg base 1 "first_unlike" spUnlike)
    (D : Dn K mg "apart" s_apart) : Cl P w K mg base 3 "apart" (spApart C) := by
  refine cl_of D sc_apart (fun vs H Q E h => ?_) (fun _ _ _ _ _ _ us hl => match us, hl with | [_, _], _ => rfl) fun f cdv A outer s H vs Q E hr h => ?_
  · obtain ⟨F, ls, cs, i, j, _, rfl, _⟩ := h
    rfl
  obtain ⟨g, h, ns, ms, n, m, rfl, hg, hh, gn, gm, hQ⟩ := h
  refine ⟨_, PSs.nox (pss_cons (ps_expr (pe_cl c_require_graphs hr (by decide) rfl (pa_cons (pv 0) (pa_cons (pv 1) pa_nil)))) (pss_one (ps_ret (pe_cl c_first_unlike hr (by decide) rfl (pa_cons (pe_cl c_rounds_of hr (by decide) rfl (pa_cons (pe_cl c_joined hr (by decide) rfl (pa_cons (pv 0) (pa_cons (pv 1) pa_nil))) pa_nil)) (pa_cons (pe_fld (pv 0) rfl) (pa_cons (pe_op op_add (pe_fld (pv 1) rfl) (pe_callB call_len (by rfl) T.len_ PySem.boot_len (pa_cons (pe_fld (pv 0) rfl) pa_nil))) pa_nil))))))), ?_⟩
  refine ⟨_, rfl, _, rfl, _, _, rfl, hg.gr, hh.gr, fun H1 k1 => ?_⟩
  refine ⟨_, rfl, _, rfl, g, h, ns, ms, n, m, rfl, hg.keep k1, hh.keep k1, gn.small, gm.small, fun H2 p us k2 hp hp' hpn => ?_⟩
  refine ⟨p, us, joinN ns ms, rfl, hp', hpn, join_small gn gm, fun H3 F ls k3 hF hF' hpl => ?_⟩
  have k := (k1.trans k2).trans k3
  obtain ⟨dx, t, tus, q1, q2, q3⟩ := hg.keep k
  obtain ⟨dy, t2, tus2, q4, q5, q6⟩ := hh.keep k
  refine ⟨_, rfl, g, C, dx, _, _, rfl, q1, GG.cl, GG.nT, gfs_top t n, ?_⟩
  refine ⟨_, rfl, h, C, dy, _, _, rfl, q4, GG.cl, GG.nT, gfs_top t2 m, ?_⟩
  refine ⟨_, rfl, g, C, dx, _, _, rfl, q1, GG.cl, GG.nN, gfs_nodes t n, .ref t, tus.length, rfl, .inr ⟨_, SqT.of q2, rfl⟩, _, _, rfl, rfl, ?_⟩
  have jl : (joinN ns ms).length = ns.length + ms.length := join_len ns ms
  have t1 := gn.top
  have t2' := gm.top
  refine ⟨F, ls, _, n, m + ns.length, by rw [paired_len q3]; push_cast; rfl, hF', hpl, fun c hc => ?_, fun H4 v k4 hv => hQ _ _ (k.trans k4) (hv.trans ?_)⟩
  · obtain ⟨i, _, rfl⟩ := List.mem_map.mp hc
    rw [clsAt_len, jl]
    constructor <;> omega
  · constructor
    · intro z
      exact z _ (List.mem_map.mpr ⟨lastR (joinN ns ms), List.mem_range.mpr (Nat.lt_succ_self _), rfl⟩)
    · intro z c hc
      obtain ⟨i, hi, rfl⟩ := List.mem_map.mp hc
      exact clsAt_fine (by omega) (by omega) (Nat.lt_succ_iff.mp (List.mem_range.mp hi)) z
theorem w_equal {C : Addr} (T : Txt K mg) (GG : GC K mg C) (c_apart : Cl P w K mg base 3 "apart" (spApart C)) (D : Dn K mg "equal" s_equal) : Cl P w K mg base 4 "equal" (spEqual C) := by
  refine cl_of D sc_equal (fun vs H Q E h => ?_) (fun _ _ _ _ _ _ us hl => match us, hl with | [_, _], _ => rfl) fun f cdv A outer s H vs Q E hr h => ?_
  · obtain ⟨F, ls, cs, i, j, _, rfl, _⟩ := h
    rfl
  obtain ⟨g, h, ns, ms, n, m, rfl, hg, hh, gn, gm, hQ⟩ := h
  refine ⟨_, PSs.nox (pss_one (ps_ret (pe_cmpR op_isN (pe_cl c_apart hr (by decide) rfl (pa_cons (pv 0) (pa_cons (pv 1) pa_nil))) pe_non (nomark _)))), ?_⟩
  refine ⟨_, rfl, _, rfl, g, h, ns, ms, n, m, rfl, hg, hh, gn, gm, fun H1 v k1 hv => ?_⟩
  exact ⟨rfl, hQ _ _ k1 (by rw [decide_eq_true_iff]; exact hv)⟩
end
end Ap
set_option Elab.async false
set_option linter.all false
set_option maxRecDepth 100000
set_option maxHeartbeats 4000000
namespace Ap
open PySem PySem.Spec PyProof.Rows L2
abbrev N_goals : List Str := ["node", "other", "classes", "by", "found", "key", "value", "other_key", "other_value"]
theorem sc_goals : FnScope N_goals ["node", "other", "classes", "by"] (defScope s_goals) := ⟨rfl, rfl, rfl, by decide +kernel, rfl, by decide +kernel, by decide +kernel⟩

abbrev N_equal_goals : List Str := ["node", "other", "classes", "by", "found", "entry", "second", "number"]
theorem sc_equal_goals : FnScope N_equal_goals ["node", "other", "classes", "by"] (defScope s_equal_goals) := ⟨rfl, rfl, rfl, by decide +kernel, rfl, by decide +kernel, by decide +kernel⟩

/-- equal_goals: two nodes of one kind -/
def spGoals (mpOk : Bool) : Sp := fun vs H Q _ => ∃ (u v : V) (n m : Nd) (c : Addr) (cs : List Nat) (b : Nat), vs = [u, v, .ref c, nV b] ∧ NdV H u n ∧ NdV H v m ∧ n.kind = m.kind ∧ (n.kind = "mapping" → mpOk = true) ∧ n.len ≤ 4 ∧ m.len ≤ 4 ∧ H c = some (.lst (cs.map nV)) ∧ n.below cs.length ∧ (m.shift b).below cs.length ∧
  ∀ H' p us, Keep [] H H' → H p = none → H' p = some (.lst us) → Paired (PairV H') us (eqGoals cs b n m) → Q (.ref p) H'
section
variable {P : Program} {w : World} {K : PySem.W.Frag} {mg : Str → Option Value} {base : Heap}
theorem zip_pairs {H : Hp} : ∀ {ts : List Addr} {xs ys : List Nat}, Paired (fun (t : Addr) (q : V × V) => H t = some (.tup [q.1, q.2])) ts ((xs.map nV).zip (ys.map nV)) → Paired (PairV H) (ts.map V.ref) (xs.zip ys)
  | [], [], _, _ => .nil
  | [], _ :: _, [], _ => .nil
  | t :: ts, x :: xs, y :: ys, .cons h r => .cons ⟨t, rfl, h⟩ (zip_pairs r)
theorem w_goals (T : Txt K mg) (D : Dn K mg "goals" s_goals) : Cl P w K mg base 1 "goals" (spGoals false) := by
  refine cl_of D sc_goals (fun vs H Q E h => ?_) (fun _ _ _ _ _ _ us hl => match us, hl with | [_, _, _, _], _ => rfl) fun f cdv A outer s H vs Q E hr h => ?_
  · obtain ⟨u, v, n, m, c, cs, b, rfl, _⟩ := h
    rfl
  obtain ⟨u, v, n, m, c, cs, b, rfl, ⟨a, ct, rfl, ha, hct⟩, ⟨a2, ct2, rfl, ha2, hct2⟩, hk, hno, l1, l2, hcs, b1, b2, hQ⟩ := h
  refine ⟨_, PSs.nox (pss_cons (ps_if (pt_cmpR op_eq (pe_ix ix_tup (pv 0) pe_int (fun _ _ => rfl)) pe_str (nomark _)) (pss_one (ps_ret (pe_lst pa_nil))) pss_nil) (pss_cons (ps_if (pt_cmpR op_eq (pe_ix ix_tup (pv 0) pe_int (fun _ _ => rfl)) pe_str (nomark _)) (pss_one (ps_ret (pe_listZip rfl (by rfl) T.list_ (by rfl) T.zip_ (pa_cons (pe_ix ix_tup (pv 0) pe_int (fun _ _ => rfl)) (pa_cons (pe_ix ix_tup (pv 1) pe_int (fun _ _ => rfl)) pa_nil))))) pss_nil) pss_never)), ?_⟩
  cases n with
  | sc t x =>
    cases m with
    | sc t' x' =>
      refine ⟨_, rfl, a, _, _, _, rfl, rfl, SqT.of ha, rfl, rfl, _, rfl, iteT ?_⟩
      exact ⟨(by show 0 ≤ sizeLine; decide), fun p hp => hQ _ p [] (keep_new hp) hp upd_same .nil⟩
    | sq t' ys => exact absurd hk (by simp only [Nd.kind]; decide +kernel)
    | mp t' es => exact absurd hk (by simp only [Nd.kind]; decide +kernel)
  | sq t xs =>
    cases m with
    | sq t' ys =>
      obtain ⟨q, rfl, hx⟩ := hct
      obtain ⟨q2, rfl, hx2⟩ := hct2
      refine ⟨_, rfl, a, _, _, _, rfl, rfl, SqT.of ha, rfl, rfl, _, rfl, iteF ?_⟩
      refine ⟨_, rfl, a, _, _, _, rfl, rfl, SqT.of ha, rfl, rfl, _, rfl, iteT ?_⟩
      refine ⟨_, rfl, a, _, _, _, rfl, rfl, SqT.of ha, rfl, _, rfl, a2, _, _, _, rfl, rfl, SqT.of ha2, rfl, q, q2, _, _, rfl, SqT.of hx, SqT.of hx2, fun H' p ts k hp hts hp' hz => ?_⟩
      exact hQ H' p _ (fun b o _ e => k b o e) hp hp' (zip_pairs hz)
    | sc t' x' => exact absurd hk (by simp only [Nd.kind]; decide +kernel)
    | mp t' es => exact absurd hk (by simp only [Nd.kind]; decide +kernel)
  | mp t es => exact absurd (hno rfl) (by decide)
def bodyG (cs : List Nat) (b : Nat) (e f : Nat × Nat) : List (Nat × Nat) := if at_ cs e.1 = at_ cs (f.1 + b) ∧ at_ cs e.2 = at_ cs (f.2 + b) then [(e.1, f.1), (e.2, f.2)] else []
theorem goals_mp (cs : List Nat) (b : Nat) (t t' : Str) (es fs : List (Nat × Nat)) : eqGoals cs b (.mp t es) (.mp t' fs) = es.flatMap fun e => fs.flatMap (bodyG cs b e) := rfl
theorem flat_snoc {α β : Type} (f : α → List β) (xs : List α) (x : α) : (xs ++ [x]).flatMap f = xs.flatMap f ++ f x := by simp
theorem w_equal_goals (T : Txt K mg) (c_goals : Cl P w K mg base 1 "goals" (spGoals false)) (D : Dn K mg "equal_goals" s_equal_goals) : Cl P w K mg base 2 "equal_goals" (spGoals true) := by
  refine cl_of D sc_equal_goals (fun vs H Q E h => ?_) (fun _ _ _ _ _ _ us hl => match us, hl with | [_, _, _, _], _ => rfl) fun f cdv A outer s H vs Q E hr h => ?_
  · obtain ⟨u, v, n, m, c, cs, b, rfl, _⟩ := h
    rfl
  obtain ⟨u, v, n, m, c, cs, b, rfl, hu_, hv_, hk, hno, l1, l2, hcs, b1, b2, hQ⟩ := h
  have hu0 := hu_
  obtain ⟨a, ct, rfl, ha, hct⟩ := hu_
  have hv0 := hv_
  obtain ⟨a2, ct2, rfl, ha2, hct2⟩ := hv_
  refine ⟨_, PSs.nox (pss_cons (ps_if (pt_cmpR op_ne (pe_ix ix_tup (pv 0) pe_int (fun _ _ => rfl)) pe_str (nomark _)) (pss_one (ps_ret (pe_cl c_goals hr (by decide) rfl (pa_cons (pv 0) (pa_cons (pv 1) (pa_cons (pv 2) (pa_cons (pv 3) pa_nil))))))) pss_nil) (pss_cons (ps_set (i := 4) sc_equal_goals.nd rfl (Or.inl rfl) (pe_lst pa_nil)) (pss_cons (ps_for PassesOwn.never rfl (pi_tup (pe_ix ix_tup (pv 0) pe_int (fun _ _ => rfl))) (pg_name (i := 5) sc_equal_goals.nd rfl (Or.inl rfl)) (pss_one (ps_for PassesOwn.never rfl (pi_tup (pe_ix ix_tup (pv 1) pe_int (fun _ _ => rfl))) (pg_name (i := 6) sc_equal_goals.nd rfl (Or.inl rfl)) (pss_one (ps_if (pt_cmpR (op_eqD hr.units) (pe_lc (own := [("number", 7)]) (g := (gName 7)) (tt := tYes) rfl sc_equal_goals.nd (pi_tup (pv 5)) (blkOk_by (own := [("number", 7)]) (N := N_equal_goals) (sc := (defScope s_equal_goals)) (by decide +kernel)) (fun _ _ _ _ _ => (pg_name (i := 7) sc_equal_goals.nd rfl (Or.inl rfl))) (fun _ _ _ _ _ => pts_nil) (fun _ _ _ _ _ => (pe_ix (kIxL (K := K) rfl) (pv 2) (pv 7) (fun _ _ => rfl)))) (pe_lc (own := [("number", 7)]) (g := (gName 7)) (tt := tYes) rfl sc_equal_goals.nd (pi_tup (pv 6)) (blkOk_by (own := [("number", 7)]) (N := N_equal_goals) (sc := (defScope s_equal_goals)) (by decide +kernel)) (fun _ _ _ _ _ => (pg_name (i := 7) sc_equal_goals.nd rfl (Or.inl rfl))) (fun _ _ _ _ _ => pts_nil) (fun _ _ _ _ _ => (pe_ix (kIxL (K := K) rfl) (pv 2) (pe_op op_add (pv 7) (pv 3)) (fun _ _ => rfl)))) (nomark _)) (pss_one (ps_expr (pe_bm PySem.F.plainAttrs_list PySem.F.slot_list_extend PySem.F.type_list_extend mt_extend (pv 4) (pa_cons (pe_listZip rfl (by rfl) T.list_ (by rfl) T.zip_ (pa_cons (pv 5) (pa_cons (pv 6) pa_nil))) pa_nil)))) pss_nil))))) (pss_one (ps_ret (pv 4)))))), ?_⟩
  by_cases hm : n.kind = "mapping"
  case neg =>
    refine ⟨_, rfl, a, _, _, _, rfl, rfl, SqT.of ha, rfl, rfl, _, rfl, ?_⟩
    rw [show (!decide (V.str n.kind = V.str "mapping")) = true by rw [decide_eq_false (fun z => hm (V.str.inj z))]; rfl]
    exact iteT ⟨_, rfl, _, rfl, _, rfl, _, rfl, _, _, n, m, c, cs, b, rfl, hu0, hv0, hk, fun z => absurd z hm, l1, l2, hcs, b1, b2, hQ⟩
  cases n with
  | sc t x => exact absurd hm (by simp only [Nd.kind]; decide +kernel)
  | sq t x => exact absurd hm (by simp only [Nd.kind]; decide +kernel)
  | mp t es =>
  cases m with
  | sc t x => exact absurd hk (by simp only [Nd.kind]; decide +kernel)
  | sq t x => exact absurd hk (by simp only [Nd.kind]; decide +kernel)
  | mp t' fs =>
  obtain ⟨q, us, rfl, hx, hp⟩ := hct
  obtain ⟨q2, us2, rfl, hx2, hp2⟩ := hct2
  have e1 : us.length = es.length := paired_len hp
  have e2 : us2.length = fs.length := paired_len hp2
  have l1' : es.length ≤ 4 := l1
  have l2' : fs.length ≤ 4 := l2
  refine ⟨_, rfl, a, _, _, _, rfl, rfl, SqT.of ha, rfl, rfl, _, rfl, iteF ?_⟩
  refine ⟨by show 0 ≤ sizeLine; decide, fun F hF => ?_⟩
  have k1 : Keep [] H (upd H F (.lst [])) := keep_new hF
  refine ⟨_, rfl, a, _, _, _, rfl, rfl, SqT.of (k1.at_ ha), rfl, q, rfl, ⟨_, SqT.of (k1.at_ hx)⟩, ?_⟩
  have bd : ∀ i, ((es.take i).flatMap fun e => fs.flatMap (bodyG cs b e)).length ≤ 32 := fun i => goals_len (n := .mp t (es.take i)) (m := .mp t fs) (c := cs) (b := b) (by show (es.take i).length ≤ 4; rw [List.length_take]; omega) l2
  have bd2 : ∀ (e : Nat × Nat) j, ((fs.take j).flatMap (bodyG cs b e)).length ≤ 32 := fun e j => by
    have := goals_len (n := .mp t [e]) (m := .mp t (fs.take j)) (c := cs) (b := b) (by show 1 ≤ 4; decide) (by show (fs.take j).length ≤ 4; rw [List.length_take]; omega)
    rw [goals_mp] at this
    simpa using this
  refine for_it (walk_tup (xs := us)) (fun i σ H2 => Keep [] H H2 ∧ (∃ ws, H2 F = some (.lst ws) ∧ Paired (PairV H2) ws ((es.take i).flatMap fun e => fs.flatMap (bodyG cs b e))) ∧ ∃ u1 u2, σ = [some (.ref a), some (.ref a2), some (.ref c), some (nV b), some (.ref F), u1, u2, none])
    ⟨k1, ⟨[], upd_same, .nil⟩, _, _, rfl⟩ (fun i σ H2 _ z => SqT.of (z.1.at_ hx)) ?_ ?_
  · rintro i x σ H2 H3 hi ⟨k2, ⟨ws, hws, hpw⟩, u1, u2, rfl⟩ ⟨rfl, ex⟩
    obtain ⟨e, he, te, rfl, hte⟩ := paired_get hp ex
    obtain ⟨eb1, eb2⟩ := b1 e (List.mem_of_getElem? he)
    refine ⟨_, rfl, a2, _, _, _, rfl, rfl, SqT.of (k2.at_ ha2), rfl, q2, rfl, ⟨_, SqT.of (k2.at_ hx2)⟩, ?_⟩
    refine for_it (walk_tup (xs := us2)) (fun j σ H3 => Keep [] H H3 ∧ (∃ ws, H3 F = some (.lst ws) ∧ Paired (PairV H3) ws (((es.take i).flatMap fun e => fs.flatMap (bodyG cs b e)) ++ (fs.take j).flatMap (bodyG cs b e))) ∧ ∃ u2, σ = [some (.ref a), some (.ref a2), some (.ref c), some (nV b), some (.ref F), some (.ref te), u2, none])
      ⟨k2, ⟨ws, hws, by simpa using hpw⟩, _, rfl⟩ (fun i σ H2 _ z => SqT.of (z.1.at_ hx2)) ?_ ?_
    · rintro j y σ H3 H4 hj ⟨k3, ⟨ws3, hws3, hpw3⟩, u3, rfl⟩ ⟨rfl, ey⟩
      obtain ⟨g, hg, tg, rfl, htg⟩ := paired_get hp2 ey
      have htg3 := k3.at_ htg
      have hte3 := k3.at_ hte
      obtain ⟨gb1, gb2⟩ := b2 (g.1 + b, g.2 + b) (List.mem_map.mpr ⟨g, List.mem_of_getElem? hg, rfl⟩)
      refine ⟨_, rfl, te, rfl, ⟨_, SqT.of hte3⟩, fun D1 hD1 => ?_⟩
      refine lc_it (walk_tup (xs := [nV e.1, nV e.2])) (Gath _ [] J0 D1 [e.1, e.2] (fun x => some (at_ cs x)) (fun _ v z => v = nV z)) (gath0 hD1 trivial) (fun _ H _ p => SqT.of (p.keep.at_ hte3)) ?_ ?_
      · rintro k x H5 H6 hk p ⟨rfl, ex⟩
        have hx' : ∃ z, [e.1, e.2][k]? = some z ∧ x = nV z ∧ z < cs.length := by
          match k, hk with
          | 0, _ => exact ⟨e.1, rfl, (Option.some.inj ex).symm, eb1⟩
          | 1, _ => exact ⟨e.2, rfl, (Option.some.inj ex).symm, eb2⟩
        obtain ⟨z, hz, rfl, hzl⟩ := hx'
        refine ⟨rfl, yes_ ?_⟩
        refine ⟨_, rfl, _, rfl, c, _, _, _, rfl, rfl, SqL.of ((k3.trans p.keep).at_ hcs), at_atI hzl, ?_⟩
        exact p.yes gx_flat hD1 hz (by show 2 < sizeLine; decide) (Keep.refl _ _) trivial rfl rfl
      intro H5 p
      obtain ⟨k5, _, ys, hy, hq⟩ := p.all rfl
      rw [paired_eq hq] at hy
      have hy : H5 D1 = some (.lst ([at_ cs e.1, at_ cs e.2].map nV)) := hy
      refine ⟨_, rfl, tg, rfl, ⟨_, SqT.of (k5.at_ htg3)⟩, fun D2 hD2 => ?_⟩
      refine lc_it (walk_tup (xs := [nV g.1, nV g.2])) (Gath _ [] J0 D2 [g.1, g.2] (fun x => some (at_ cs (x + b))) (fun _ v z => v = nV z)) (gath0 hD2 trivial) (fun _ H _ p => SqT.of (p.keep.at_ (k5.at_ htg3))) ?_ ?_
      · rintro k x H6 H7 hk p ⟨rfl, ex⟩
        have hx' : ∃ z, [g.1, g.2][k]? = some z ∧ x = nV z ∧ z + b < cs.length := by
          match k, hk with
          | 0, _ => exact ⟨g.1, rfl, (Option.some.inj ex).symm, gb1⟩
          | 1, _ => exact ⟨g.2, rfl, (Option.some.inj ex).symm, gb2⟩
        obtain ⟨z, hz, rfl, hzl⟩ := hx'
        refine ⟨rfl, yes_ ?_⟩
        refine ⟨_, rfl, _, rfl, _, rfl, _, _, rfl, rfl, c, _, ((z + b : Nat) : Int), _, rfl, (by push_cast; rfl), SqL.of (((k3.trans k5).trans p.keep).at_ hcs), at_atI hzl, ?_⟩
        exact p.yes gx_flat hD2 hz (by show 2 < sizeLine; decide) (Keep.refl _ _) trivial rfl rfl
      intro H6 p
      obtain ⟨k6, _, ys2, hy2, hq2⟩ := p.all rfl
      rw [paired_eq hq2] at hy2
      have hy2 : H6 D2 = some (.lst ([at_ cs (g.1 + b), at_ cs (g.2 + b)].map nV)) := hy2
      have k36 := k5.trans k6
      have ek : Paired (PairV H6) ws3 (((es.take i).flatMap fun e => fs.flatMap (bodyG cs b e)) ++ (fs.take j).flatMap (bodyG cs b e)) := pairs_ext k36.ext0 hpw3
      refine ⟨_, _, dp_nats (SqL.of (k6.at_ hy)), dp_nats (SqL.of hy2), dNs_shaped _, dNs_shaped _, _, rfl, ?_⟩
      rw [dNs_eqv]
      have et : (fs.take (j + 1)).flatMap (bodyG cs b e) = (fs.take j).flatMap (bodyG cs b e) ++ bodyG cs b e g := by rw [take_snoc hg, flat_snoc]
      by_cases eq : [at_ cs e.1, at_ cs e.2] = [at_ cs (g.1 + b), at_ cs (g.2 + b)]
      · rw [decide_eq_true eq]
        have eq' : at_ cs e.1 = at_ cs (g.1 + b) ∧ at_ cs e.2 = at_ cs (g.2 + b) := by simpa using eq
        refine iteT ⟨_, rfl, .inl ⟨rfl, _, SqL.of (k36.at_ hws3)⟩, _, rfl, _, rfl, te, tg, _, _, rfl, SqT.of (k36.at_ hte3), SqT.of (k36.at_ htg3), fun H7 p ts k7 hp7 hts hp7' hz => ?_⟩
        have k7 : Keep [] H6 H7 := fun b o _ e => k7 b o e
        have hz2 := zip_pairs (xs := [e.1, e.2]) (ys := [g.1, g.2]) hz
        have hF7 := k7.at_ (k36.at_ hws3)
        have lw := paired_len hpw3
        rw [List.length_append] at lw
        have lt := paired_len hz2
        have lb1 := bd i
        have lb2 := bd2 e j
        simp only [List.length_zip, List.length_cons, List.length_nil] at lt
        refine ⟨F, p, _, _, rfl, rfl, hF7, hp7', small_line' (by omega), ?_⟩
        refine ⟨((k3.trans k36).trans k7).upd0 hF, ⟨_, upd_same, ?_⟩, _, rfl⟩
        rw [et, ← List.append_assoc]
        have ex7 : Ext H7 (upd H7 F (.lst (ws3 ++ ts.map V.ref))) := ext_updl hF7 (by intro xs z; cases z)
        refine paired_cat ?_ (pairs_ext ex7 (pairs_ext k7.ext0 ek))
        unfold bodyG
        rw [if_pos eq']
        exact pairs_ext ex7 hz2
      · rw [decide_eq_false eq]
        refine iteF ⟨k3.trans k36, ⟨ws3, k36.at_ hws3, ?_⟩, _, rfl⟩
        rw [et]
        unfold bodyG at ek ⊢
        rw [if_neg (fun z => eq (by rw [z.1, z.2])), List.append_nil]
        exact ek
    · rintro σ H3 ⟨k3, ⟨ws3, hws3, hpw3⟩, u3, rfl⟩
      refine ⟨k3, ⟨ws3, hws3, ?_⟩, _, _, rfl⟩
      rw [show fs.take us2.length = fs from List.take_of_length_le (by omega)] at hpw3
      rw [take_snoc he, flat_snoc]
      exact hpw3
  · rintro σ H2 ⟨k2, ⟨ws, hws, hpw⟩, u1, u2, rfl⟩
    rw [List.take_of_length_le (by omega)] at hpw
    exact ⟨_, rfl, hQ _ F ws k2 hF hws hpw⟩
end
end Ap
set_option Elab.async false
set_option linter.all false
set_option maxRecDepth 100000
set_option maxHeartbeats 4000000
namespace Ap
open PySem PySem.Spec PyProof.Rows L2
abbrev N_paper_of : List Str := ["graph", "other", "by", "classes", "found", "waiting", "one", "two"]
theorem sc_paper_of : FnScope N_paper_of ["graph", "other"] (defScope s_paper_of) := ⟨rfl, rfl, rfl, by decide +kernel, rfl, by decide +kernel, by decide +kernel⟩

def spPaper (C : Addr) : Sp := fun vs H Q _ => ∃ (g h : Addr) (ns ms : List Nd) (n m : Nat), vs = [.ref g, .ref h] ∧ GrAt C H g ns n ∧ GrAt C H h ms m ∧ Gok ns n ∧ Gok ms m ∧ (∀ H', Keep [] H H' → ¬ eqv_ ns ms n m → Q .non H') ∧
  ∀ H' p us, Keep [] H H' → H p = none → H' p = some (.lst us) → Paired (PairV H') us (paperN ns ms n m) → eqv_ ns ms n m → Q (.ref p) H'
theorem pairV_key {H : Hp} {v : V} {p : Nat × Nat} (h : PairV H v p) : KeyV H (pk p) v := by
  obtain ⟨a, rfl, h⟩ := h
  exact .tup h (.cons (.num _) (.cons (.num _) .nil))
theorem dp_pairs {K : PySem.W.Frag} {H : Hp} {a : Addr} {vs : List V} {ps : List (Nat × Nat)} (h : SqL K H a vs) (p : Paired (PairV H) vs ps) : Dp K H (.ref a) (dPs ps) := .lst h (dpAll_of (fun _ _ q => pairV_key q) p)
section
variable {P : Program} {w : World} {K : PySem.W.Frag} {mg : Str → Option Value} {base : Heap}
theorem paired_last2 {α β : Type} {R : α → β → Prop} {x : β} : ∀ {xs : List β} {vs : List α}, Paired R vs (xs ++ [x]) → ∃ vs' v, vs = vs' ++ [v] ∧ Paired R vs' xs ∧ R v x
  | [], _, .cons q .nil => ⟨[], _, rfl, .nil, q⟩
  | _ :: xs, _, .cons q t => by
    obtain ⟨vs', v, e, p, r⟩ := paired_last2 t
    exact ⟨_ :: vs', v, by rw [e]; rfl, .cons q p, r⟩
theorem first_kind {n m : Nd} (h : firstKey n = firstKey m) : n.kind = m.kind := by
  cases n <;> cases m <;> simp only [firstKey] at h <;> first | rfl | (injection h with h; injection h with h _; injection h with h; first | exact h | done)
theorem sk_flen {ns ms : List Nd} {n m : Nat} : ∀ k, (sk ns ms n m k).1.length ≤ k
  | 0 => Nat.zero_le _
  | k + 1 => by
    have ih := sk_flen (ns := ns) (ms := ms) (n := n) (m := m) k
    show (trn ns ms (sk ns ms n m k)).1.length ≤ k + 1
    unfold trn turnP
    split
    · omega
    · split
      · show (sk ns ms n m k).1.length ≤ k + 1
        omega
      · show ((sk ns ms n m k).1 ++ [_]).length ≤ k + 1
        rw [List.length_append, List.length_singleton]
        omega
theorem keys_pairs {H : Hp} : ∀ {kvs : List (List Key × V)} {bs : List Addr} {ps : List (Nat × Nat)}, kvs.map (·.1) = ps.map keyOf → Paired (fun (p : List Key × V) b => H b = some (.tup (p.1.map kV))) kvs bs → Paired (PairV H) (bs.map V.ref) ps
  | [], _, [], _, .nil => .nil
  | [], _, _ :: _, h, _ => by simp at h
  | _ :: _, _, [], h, _ => by simp at h
  | kv :: kvs, _, p :: ps, h, .cons q t => by
    simp only [List.map_cons, List.cons.injEq] at h
    rw [h.1] at q
    exact .cons ⟨_, rfl, q⟩ (keys_pairs h.2 t)
theorem w_paper_of {C : Addr} (T : Txt K mg) (GG : GC K mg C) (c_require_graphs : Cl P w K mg base 1 "require_graphs" (spReq C)) (c_joined : Cl P w K mg base 2 "joined" (spJoin C)) (c_rounds_of : Cl P w K mg base 2 "rounds_of" spRounds) (c_equal_goals : Cl P w K mg base 2 "equal_goals" (spGoals true))
    (D : Dn K mg "paper_of" s_paper_of) : Cl P w K mg base 3 "paper_of" (spPaper C) := by
  refine cl_of D sc_paper_of (fun vs H Q E h => ?_) (fun _ _ _ _ _ _ us hl => match us, hl with | [_, _], _ => rfl) fun f cdv A outer s H vs Q E hr h => ?_
  · obtain ⟨F, ls, cs, i, j, _, rfl, _⟩ := h
    rfl
  obtain ⟨g, h, ns, ms, n, m, rfl, hg, hh, gn, gm, hQ1, hQ2⟩ := h
  have hu := hu_of hr
  refine ⟨_, PSs.nox (pss_cons (ps_expr (pe_cl c_require_graphs hr (by decide) rfl (pa_cons (pv 0) (pa_cons (pv 1) pa_nil)))) (pss_cons (ps_set (i := 2) sc_paper_of.nd rfl (Or.inl rfl) (pe_callB call_len (by rfl) T.len_ PySem.boot_len (pa_cons (pe_fld (pv 0) rfl) pa_nil))) (pss_cons (ps_set (i := 3) sc_paper_of.nd rfl (Or.inl rfl) (pe_ix ix_list (pe_cl c_rounds_of hr (by decide) rfl (pa_cons (pe_cl c_joined hr (by decide) rfl (pa_cons (pv 0) (pa_cons (pv 1) pa_nil))) pa_nil)) (pe_un un_neg pe_int) (fun _ _ => rfl))) (pss_cons (ps_if (pt_cmpR op_ne (pe_ix ix_list (pv 3) (pe_fld (pv 0) rfl) (fun _ _ => rfl)) (pe_ix ix_list (pv 3) (pe_op op_add (pe_fld (pv 1) rfl) (pv 2)) (fun _ _ => rfl)) (nomark _)) (pss_one (ps_ret pe_non)) pss_nil) (pss_cons (ps_par (by rfl) sc_paper_of.nd (i := 4) (j := 5) rfl rfl (by decide) rfl rfl (pa_cons pe_dnewT (pa_cons (pe_lst (pa_cons (pe_tup (pa_cons (pe_fld (pv 0) rfl) (pa_cons (pe_fld (pv 1) rfl) pa_nil))) pa_nil)) pa_nil)) (by rfl)) (pss_cons (ps_while PassesOwn.never (pt_cmpR (op_neD hr.units) (pv 5) (pe_lst pa_nil) (nomark _)) (pss_cons (ps_asg (pe_bm0 PySem.F.plainAttrs_list PySem.F.slot_list_pop PySem.F.type_list_pop mt_pop (pv 5)) (pg_tup (by rfl) (pgs_cons (pg_name (i := 6) sc_paper_of.nd rfl (Or.inl rfl)) (pgs_cons (pg_name (i := 7) sc_paper_of.nd rfl (Or.inl rfl)) pgs_nil)))) (pss_one (ps_if (pt_cmp (pc_dnotin hu (pe_tup (pa_cons (pv 6) (pa_cons (pv 7) pa_nil))) (pv 4))) (pss_cons (ps_dput hu (pv 4) (pe_tup (pa_cons (pv 6) (pa_cons (pv 7) pa_nil))) pe_bl rfl) (pss_one (ps_expr (pe_bm PySem.F.plainAttrs_list PySem.F.slot_list_extend PySem.F.type_list_extend mt_extend (pv 5) (pa_cons (pe_cl c_equal_goals hr (by decide) rfl (pa_cons (pe_ix ix_tup (pe_fld (pv 0) rfl) (pv 6) (fun _ _ => rfl)) (pa_cons (pe_ix ix_tup (pe_fld (pv 1) rfl) (pv 7) (fun _ _ => rfl)) (pa_cons (pv 3) (pa_cons (pv 2) pa_nil))))) pa_nil))))) pss_nil)))) (pss_one (ps_ret (pe_callTy (call_list_dT rfl) (by rfl) T.list_ PyProof.Rows.boot_list (pa_cons (pv 4) pa_nil)))))))))), ?_⟩
  refine ⟨_, rfl, _, rfl, _, _, rfl, hg.gr, hh.gr, fun H1 k1 => ?_⟩
  obtain ⟨dx, t, tus, q1, q2, q3⟩ := hg.keep k1
  have tl : tus.length = ns.length := paired_len q3
  refine ⟨_, rfl, g, C, dx, _, _, rfl, q1, GG.cl, GG.nN, gfs_nodes t n, .ref t, tus.length, rfl, .inr ⟨_, SqT.of q2, rfl⟩, ?_⟩
  refine ⟨_, rfl, _, rfl, g, h, ns, ms, n, m, rfl, hg.keep k1, hh.keep k1, gn.small, gm.small, fun H2 p us k2 hp hp' hpn => ?_⟩
  refine ⟨p, us, joinN ns ms, rfl, hp', hpn, join_small gn gm, fun H3 F ls k3 hF hF' hpl => ?_⟩
  have k := (k1.trans k2).trans k3
  rw [List.range_succ, List.map_append] at hpl
  obtain ⟨ls', v, els, c, rfl, hcF, hc⟩ := paired_last hpl
  have hc : H3 c = some (.lst ((fin (joinN ns ms)).map nV)) := hc
  refine ⟨_, rfl, F, ls, _, _, rfl, rfl, SqL.of hF', (by rw [els]; exact atI_last _ _), ?_⟩
  obtain ⟨dx, t, tus, q1, q2, q3⟩ := hg.keep k
  obtain ⟨dy, t2, tus2, q4, q5, q6⟩ := hh.keep k
  have jl : (fin (joinN ns ms)).length = ns.length + ms.length := (fin_len _).trans (join_len ns ms)
  have t1 := gn.top
  have t2' := gm.top
  refine ⟨_, rfl, _, rfl, g, C, dx, _, _, rfl, q1, GG.cl, GG.nT, gfs_top t n, c, _, _, _, rfl, rfl, SqL.of hc, at_atI (by omega), ?_⟩
  refine ⟨_, rfl, _, rfl, h, C, dy, _, _, rfl, q4, GG.cl, GG.nT, gfs_top t2 m, _, rfl, _, _, rfl, rfl, c, _, ((m + ns.length : Nat) : Int), _, rfl, (by rw [tl]; push_cast; rfl), SqL.of hc, at_atI (by omega), rfl, _, rfl, ?_⟩
  by_cases he : eqv_ ns ms n m
  case neg =>
    rw [show (!decide (nV (at_ (fin (joinN ns ms)) n) = nV (at_ (fin (joinN ns ms)) (m + ns.length)))) = true by rw [decide_eq_false (fun z => he (by injection z with z; exact Int.ofNat.inj z))]; rfl]
    exact iteT (hQ1 _ k he)
  have he' : at_ (fin (joinN ns ms)) n = at_ (fin (joinN ns ms)) (m + ns.length) := he
  rw [show (!decide (nV (at_ (fin (joinN ns ms)) n) = nV (at_ (fin (joinN ns ms)) (m + ns.length)))) = false by rw [he']; simp]
  refine iteF fun Fd hFd => ?_
  have kF : Keep [] H3 (upd H3 Fd (.dT [])) := keep_new hFd
  refine ⟨_, rfl, g, C, dx, _, _, rfl, kF.at_ q1, GG.cl, GG.nT, gfs_top t n, _, rfl, h, C, dy, _, _, rfl, kF.at_ q4, GG.cl, GG.nT, gfs_top t2 m, (by show 2 ≤ sizeLine; decide), fun tp htp => ?_⟩
  refine ⟨(by show 1 ≤ sizeLine; decide), fun Wl hWl => ⟨_, _, rfl, ?_⟩⟩
  have kT : Keep [] (upd H3 Fd (.dT [])) (upd (upd H3 Fd (.dT [])) tp (.tup [nV n, nV m])) := keep_new htp
  have kW : Keep [] (upd (upd H3 Fd (.dT [])) tp (.tup [nV n, nV m])) (upd (upd (upd H3 Fd (.dT [])) tp (.tup [nV n, nV m])) Wl (.lst [.ref tp])) := keep_new hWl
  have hWF : Wl ≠ Fd := fun z => by subst z; have := kT.at_ (b := Wl) upd_same; rw [hWl] at this; cases this
  have hF0 : H3 Fd = none := hFd
  have hW0 : H3 Wl = none := none_of (kF.trans kT) hWl
  obtain ⟨d1, d2⟩ := skN_spec gn gm he
  have tl2 : tus.length = ns.length := paired_len q3
  have tl3 : tus2.length = ms.length := paired_len q6
  refine ⟨fun a σ H4 => ∃ i, a = skN ns ms n m - i ∧ i ≤ skN ns ms n m ∧ Keep [] H3 H4 ∧ (∃ kvs, H4 Fd = some (.dT kvs) ∧ kvs.map (·.1) = (sk ns ms n m i).1.map keyOf) ∧ (∃ ws, H4 Wl = some (.lst ws) ∧ Paired (PairV H4) ws (sk ns ms n m i).2) ∧
      ∃ u1 u2, σ = [some (.ref g), some (.ref h), some (nV ns.length), some (.ref c), some (.ref Fd), some (.ref Wl), u1, u2],
    ⟨_, 0, rfl, Nat.zero_le _, (kF.trans kT).trans kW, ⟨[], (kT.trans kW).at_ upd_same, rfl⟩, ⟨_, upd_same, .cons ⟨tp, rfl, kW.at_ upd_same⟩ .nil⟩, none, none, by rw [← tl]; rfl⟩, ?_⟩
  rintro a σ H4 ⟨i, rfl, hi, k4, ⟨kvs, hkv, hkk⟩, ⟨ws, hws, hpw⟩, u1, u2, rfl⟩
  have ok := sk_ok gn gm he i
  refine ⟨_, rfl, (by show 0 ≤ sizeLine; decide), fun e0 he0 => ?_⟩
  have ke : Keep [] H4 (upd H4 e0 (.lst [])) := keep_new he0
  refine ⟨_, _, dp_pairs (SqL.of (ke.at_ hws)) (pairs_ext ke.ext0 hpw), dp_pairs (ps := []) (SqL.of upd_same) .nil, dPs_shaped _, dPs_shaped _, _, rfl, ?_⟩
  rw [dPs_eqv]
  by_cases hnil : (sk ns ms n m i).2 = []
  · rw [decide_eq_true hnil]
    have ei : i = skN ns ms n m := by
      rcases Nat.lt_or_eq_of_le hi with z | z
      · exact absurd hnil (d2 i z)
      · exact z
    refine iteF ⟨_, rfl, Fd, kvs, rfl, .inl (ke.at_ hkv), fun p bs hp hb => ?_⟩
    have k5 : Keep [] H3 (upd H4 e0 (.lst [])) := k4.trans ke
    refine hQ2 _ p _ ((k.trans k5).new hp) (none_of (k.trans k5) hp) upd_same ?_ he
    have kp : Keep [] (upd H4 e0 (.lst [])) (upd (upd H4 e0 (.lst [])) p (.lst (bs.map V.ref))) := keep_new hp
    rw [ei] at hkk
    show Paired _ _ (sk ns ms n m (skN ns ms n m)).1
    exact keys_pairs hkk (Paired.mapP hb fun p b h => kp.at_ h)
  · rw [decide_eq_false hnil]
    have hlt : i < skN ns ms n m := by
      rcases Nat.lt_or_eq_of_le hi with z | z
      · exact z
      · rw [z] at hnil; exact absurd d1 hnil
    refine iteT ⟨fun σ' H' => ∃ j, j = i + 1 ∧ Keep [] H3 H' ∧ (∃ kvs, H' Fd = some (.dT kvs) ∧ kvs.map (·.1) = (sk ns ms n m j).1.map keyOf) ∧ (∃ ws, H' Wl = some (.lst ws) ∧ Paired (PairV H') ws (sk ns ms n m j).2) ∧
      ∃ u1 u2, σ' = [some (.ref g), some (.ref h), some (nV ns.length), some (.ref c), some (.ref Fd), some (.ref Wl), u1, u2], ?_, ?_⟩
    · rintro σ' H' ⟨j, rfl, z1, z2, z3, z4⟩
      exact ⟨skN ns ms n m - (i + 1), by omega, i + 1, rfl, hlt, z1, z2, z3, z4⟩
    obtain ⟨p, hlast⟩ : ∃ p, (sk ns ms n m i).2.getLast? = some p := by
      cases z : (sk ns ms n m i).2.getLast? with
      | none => exact absurd (List.getLast?_eq_none_iff.mp z) hnil
      | some p => exact ⟨p, rfl⟩
    have es := last_split hlast
    obtain ⟨i1, i2⟩ := p
    have hrg : Rg ns ms (i1, i2) := ok.wait _ (by rw [es]; simp)
    obtain ⟨r1, r2, r3⟩ := hrg
    have r1 : i1 < ns.length := r1
    have r2 : i2 < ms.length := r2
    rw [es] at hpw
    obtain ⟨ws', v, ews, hpd, hpv⟩ := paired_last2 hpw
    have hws' := ke.at_ hws
    have hfk := sk_mu gn gm he i fun j hj => d2 j (by omega)
    have hfl := sk_flen (ns := ns) (ms := ms) (n := n) (m := m) i
    have h100 : ns.length * ms.length ≤ 100 * 100 := Nat.mul_le_mul gn.len gm.len
    have hkl : kvs.length = (sk ns ms n m i).1.length := by
      have := congrArg List.length hkk
      rw [List.length_map, List.length_map] at this
      exact this
    have line : ∀ {a : Nat}, a ≤ 400000 → a < sizeLine := fun h => Nat.lt_of_le_of_lt h (by decide)
    refine ⟨_, rfl, .inl ⟨rfl, _, SqL.of hws'⟩, Wl, ws, v, rfl, rfl, hws', (by rw [ews]; simp), ?_⟩
    rw [show ws.dropLast = ws' by rw [ews]; simp]
    have eW : Ext (upd H4 e0 (.lst [])) (upd (upd H4 e0 (.lst [])) Wl (.lst ws')) := ext_updl hws' (by intro xs z; cases z)
    have kW5 : Keep [] H3 (upd (upd H4 e0 (.lst [])) Wl (.lst ws')) := (k4.trans ke).upd0 hW0
    have hF5 : upd (upd H4 e0 (.lst [])) Wl (.lst ws') Fd = some (.dT kvs) := by rw [upd_ne hWF.symm]; exact ke.at_ hkv
    have hpd5 : Paired (PairV (upd (upd H4 e0 (.lst [])) Wl (.lst ws'))) ws' (sk ns ms n m i).2.dropLast := pairs_ext eW (pairs_ext ke.ext0 hpd)
    have hW5 : upd (upd H4 e0 (.lst [])) Wl (.lst ws') Wl = some (.lst ws') := upd_same
    obtain ⟨vt, rfl, hvt⟩ := (hpv.ext ke.ext0).ext eW
    generalize upd (upd H4 e0 (.lst [])) Wl (.lst ws') = H5 at *
    refine ⟨vt, _, rfl, SqT.of hvt, rfl, _, _, rfl, _, _, rfl, rfl, ?_⟩
    refine ⟨_, rfl, _, rfl, (by show 2 ≤ sizeLine; decide), fun tk htk => ?_⟩
    have kk : Keep [] H5 (upd H5 tk (.tup [nV i1, nV i2])) := keep_new htk
    refine ⟨_, rfl, Fd, _, rfl, DGet.t (k := keyOf (i1, i2)) (kk.at_ hF5) upd_same, _, rfl, ?_⟩
    have hvk : (valV kvs (keyOf (i1, i2))).isSome = decide ((i1, i2) ∈ (sk ns ms n m i).1) := by
      rw [valV_keys, hkk]
      refine decide_eq_decide.mpr ⟨fun z => ?_, fun z => List.mem_map.mpr ⟨_, z, rfl⟩⟩
      obtain ⟨q, hq, e⟩ := List.mem_map.mp z
      exact keyOf_inj e ▸ hq
    have hsk : sk ns ms n m (i + 1) = trn ns ms (sk ns ms n m i) := rfl
    by_cases hin : (i1, i2) ∈ (sk ns ms n m i).1
    · rw [hvk, decide_eq_true hin]
      have et : sk ns ms n m (i + 1) = ((sk ns ms n m i).1, (sk ns ms n m i).2.dropLast) := by
        rw [hsk]
        unfold trn turnP
        rw [hlast]
        exact if_pos hin
      refine iteF ⟨i + 1, rfl, kW5.new htk, ⟨kvs, kk.at_ hF5, by rw [et]; exact hkk⟩, ⟨ws', kk.at_ hW5, by rw [et]; exact pairs_ext kk.ext0 hpd5⟩, _, _, rfl⟩
    · rw [hvk, decide_eq_false hin]
      have et : sk ns ms n m (i + 1) = ((sk ns ms n m i).1 ++ [(i1, i2)], (sk ns ms n m i).2.dropLast ++ eqGoals (fin (joinN ns ms)) ns.length (ndAt ns i1) (ndAt ms i2)) := by
        rw [hsk]
        unfold trn turnP
        rw [hlast]
        exact if_neg hin
      generalize upd H5 tk (.tup [nV i1, nV i2]) = H6 at *
      refine iteT ⟨_, rfl, _, rfl, _, rfl, (by show 2 ≤ sizeLine; decide), fun tk2 htk2 => ?_⟩
      have k6 : Keep [] H3 H6 := kW5.trans kk
      have k67 : Keep [] H6 (upd H6 tk2 (.tup [nV i1, nV i2])) := keep_new htk2
      have hF7 := k67.at_ (kk.at_ hF5)
      refine ⟨Fd, _, rfl, DPut.t (k := keyOf (i1, i2)) (v := .bl true) hF7 upd_same (line (by omega)), ?_⟩
      have k8 : Keep [] H3 (upd (upd H6 tk2 (.tup [nV i1, nV i2])) Fd (.dT (putK kvs (keyOf (i1, i2)) (.bl true)))) := (k6.trans k67).upd0 hF0
      have e8 : Ext H5 (upd (upd H6 tk2 (.tup [nV i1, nV i2])) Fd (.dT (putK kvs (keyOf (i1, i2)) (.bl true)))) := (kk.ext0.trans k67.ext0).trans (ext_updl hF7 (by intro xs z; cases z))
      have hW8 : upd (upd H6 tk2 (.tup [nV i1, nV i2])) Fd (.dT (putK kvs (keyOf (i1, i2)) (.bl true))) Wl = some (.lst ws') := by
        rw [upd_ne hWF]
        exact k67.at_ (kk.at_ hW5)
      have hF8 : upd (upd H6 tk2 (.tup [nV i1, nV i2])) Fd (.dT (putK kvs (keyOf (i1, i2)) (.bl true))) Fd = some (.dT (putK kvs (keyOf (i1, i2)) (.bl true))) := upd_same
      generalize upd (upd H6 tk2 (.tup [nV i1, nV i2])) Fd (.dT (putK kvs (keyOf (i1, i2)) (.bl true))) = H8 at *
      obtain ⟨u1', hu1, hn1⟩ := paired_get' q3 (ndAt_get r1)
      obtain ⟨u2', hu2, hn2⟩ := paired_get' q6 (ndAt_get r2)
      have o1 := gn.ok _ (List.mem_of_getElem? (ndAt_get r1))
      have o2 := gm.ok _ (List.mem_of_getElem? (ndAt_get r2))
      refine ⟨_, rfl, .inl ⟨rfl, _, SqL.of hW8⟩, ?_⟩
      refine ⟨_, rfl, g, C, dx, _, _, rfl, k8.at_ q1, GG.cl, GG.nN, gfs_nodes t n, _, rfl, t, tus, _, _, rfl, rfl, SqT.of (k8.at_ q2), atI_nat hu1, ?_⟩
      refine ⟨_, rfl, h, C, dy, _, _, rfl, k8.at_ q4, GG.cl, GG.nN, gfs_nodes t2 m, _, rfl, t2, tus2, _, _, rfl, rfl, SqT.of (k8.at_ q5), atI_nat hu2, ?_⟩
      refine ⟨_, rfl, _, rfl, u1', u2', ndAt ns i1, ndAt ms i2, c, fin (joinN ns ms), ns.length, rfl, hn1.ext k8.ext0, hn2.ext k8.ext0, first_kind (eqv_first r1 r2 r3), fun _ => rfl, o1.1, o2.1, k8.at_ hc, by rw [jl]; exact below_mono (by omega) o1.2, by rw [jl]; exact shift_below o2.2, fun H9 pg us9 k9 hpg hpg' hp9 => ?_⟩
      have l9 := paired_len hp9
      have l9' := goals_len (c := fin (joinN ns ms)) (b := ns.length) o1.1 o2.1
      have lw := paired_len hpd5
      have lw2 : (sk ns ms n m i).2.dropLast.length ≤ (sk ns ms n m i).2.length := by rw [List.length_dropLast]; omega
      unfold mu at hfk
      refine ⟨Wl, pg, ws', us9, rfl, rfl, k9.at_ hW8, hpg', Nat.le_of_lt (line (by omega)), ?_⟩
      have e9 : Ext H9 (upd H9 Wl (.lst (ws' ++ us9))) := ext_updl (k9.at_ hW8) (by intro xs z; cases z)
      refine ⟨i + 1, rfl, (k8.trans k9).upd0 hW0, ⟨_, by rw [upd_ne hWF.symm]; exact k9.at_ hF8, ?_⟩, ⟨_, upd_same, ?_⟩, _, _, rfl⟩
      · rw [putK_keys, hkk, ddS_map, et]
        unfold ddS
        rw [if_neg hin]
      · rw [et]
        exact paired_cat (pairs_ext e9 hp9) (pairs_ext e9 (pairs_ext k9.ext0 (pairs_ext e8 hpd5)))
end
end Ap
set_option Elab.async false
set_option linter.all false
set_option maxRecDepth 100000
set_option maxHeartbeats 4000000
namespace Ap
open PySem PySem.Spec PyProof.Rows L2
abbrev N_is_pair : List Str := ["graph", "other", "value"]
theorem sc_is_pair : FnScope N_is_pair ["graph", "other", "value"] (defScope s_is_pair) := ⟨rfl, rfl, rfl, by decide +kernel, rfl, by decide +kernel, by decide +kernel⟩

abbrev N_stands : List Str := ["node", "other", "known", "fits", "pair", "entry", "second", "row", "k"]
theorem sc_stands : FnScope N_stands ["node", "other", "known"] (defScope s_stands) := ⟨rfl, rfl, rfl, by decide +kernel, rfl, by decide +kernel, by decide +kernel⟩

/-- no tuple: its type is told -/
inductive NonT (C : Addr) (H : Hp) : V → Prop
  | non : NonT C H .non
  | int (i : Int) : NonT C H (.int i)
  | str (x : Str) : NonT C H (.str x)
  | lst {q : Addr} {xs : List V} : H q = some (.lst xs) → NonT C H (.ref q)
  | dK {q : Addr} {kvs : List (Key × V)} : H q = some (.dK kvs) → NonT C H (.ref q)
  | dT {q : Addr} {kvs : List (List Key × V)} : H q = some (.dT kvs) → NonT C H (.ref q)
  | gr {q : Addr} {dx : Addr} {fs : List (Str × V)} : H q = some (.ins C dx fs) → NonT C H (.ref q)
/-- no pair of numbers below a and b -/
def OddV (C : Addr) (H : Hp) (a b : Nat) (v : V) : Prop := NonT C H v ∨ ∃ q us, v = .ref q ∧ H q = some (.tup us) ∧ ((us.length ≠ 2 ∧ us.length ≤ 100) ∨ ∃ x y, us = [x, y] ∧ Scal x ∧ Scal y ∧ (fromB x 0 ((a : Int) - 1) && fromB y 0 ((b : Int) - 1)) = false)
/-- what stands in a paper -/
def ElV (C : Addr) (a b : Nat) (H : Hp) (v : V) : Option (Nat × Nat) → Prop
  | some p => PairV H v p ∧ p.1 < a ∧ p.2 < b
  | none => OddV C H a b v
theorem NonT.keep {C : Addr} {H H' : Hp} {v : V} (k : Keep [] H H') (h : NonT C H v) : NonT C H' v := by
  cases h with
  | non => exact .non
  | int i => exact .int i
  | str x => exact .str x
  | lst e => exact .lst (k.at_ e)
  | dK e => exact .dK (k.at_ e)
  | dT e => exact .dT (k.at_ e)
  | gr e => exact .gr (k.at_ e)
theorem ElV.keep {C : Addr} {a b : Nat} {H H' : Hp} {v : V} (k : Keep [] H H') : ∀ {o : Option (Nat × Nat)}, ElV C a b H v o → ElV C a b H' v o
  | some _, h => ⟨h.1.ext k.ext0, h.2⟩
  | none, h => by
    rcases h with h | ⟨q, us, h1, h2, h3⟩
    · exact .inl (h.keep k)
    · exact .inr ⟨q, us, h1, k.at_ h2, h3⟩
theorem kit_of_tuple {K : PySem.W.Frag} {mg : Str → Option Value} {C : Addr} (GG : GC K mg C) {H : Hp} {v : V} (h : NonT C H v) : ∃ t, TyX K H v t ∧ PySem.W.kitOne K t (.type "tuple") = some false := by
  cases h with
  | non => exact ⟨_, .base .non, kit_ty (by decide +kernel)⟩
  | int i => exact ⟨_, .base (.int i), kit_ty (by decide +kernel)⟩
  | str x => exact ⟨_, .base (.str x), kit_ty (by decide +kernel)⟩
  | lst e => exact ⟨_, .base (.lst e), kit_ty (by decide +kernel)⟩
  | dK e => exact ⟨_, .base (.dK e), kit_ty (by decide +kernel)⟩
  | dT e => exact ⟨_, .base (.dT e), kit_ty (by decide +kernel)⟩
  | gr e => exact ⟨_, .base (.ins e GG.cl GG.ha GG.hn GG.htk GG.hm), GG.noT⟩
def spIsPair (C : Addr) : Sp := fun vs H Q _ => ∃ (g h : Addr) (ns ms : List Nd) (n m : Nat) (v : V) (o : Option (Nat × Nat)), vs = [.ref g, .ref h, v] ∧ GrAt C H g ns n ∧ GrAt C H h ms m ∧ ElV C ns.length ms.length H v o ∧ Q (.bl o.isSome) H
/-- the node's texts are such as == compares -/
def Lay (n : Nd) : Prop := (dk (firstKey n)).canLay0 = true ∧ (dk (firstKey n)).depth ≤ 8
def spStands : Sp := fun vs H Q _ => ∃ (u v : V) (n m : Nd) (d : Addr) (kvs : List (List Key × V)) (known : List (Nat × Nat)), vs = [u, v, .ref d] ∧ NdV H u n ∧ NdV H v m ∧ n.len ≤ 4 ∧ m.len ≤ 4 ∧ Lay n ∧ Lay m ∧ H d = some (.dT kvs) ∧ (∀ p, keyOf p ∈ kvs.map (·.1) ↔ p ∈ known) ∧
  ∀ H', Keep [] H H' → Q (.bl (standsP known n m)) H'
section
variable {P : Program} {w : World} {K : PySem.W.Frag} {mg : Str → Option Value} {base : Heap}
theorem w_is_pair {C : Addr} (T : Txt K mg) (GG : GC K mg C) (c_is_from : Cl P w K mg base 1 "is_from" spFrom) (D : Dn K mg "is_pair" s_is_pair) : Cl P w K mg base 2 "is_pair" (spIsPair C) := by
  refine cl_of D sc_is_pair (fun vs H Q E h => ?_) (fun _ _ _ _ _ _ us hl => match us, hl with | [_, _, _], _ => rfl) fun f cdv A outer s H vs Q E hr h => ?_
  · obtain ⟨g, h, ns, ms, n, m, v, o, rfl, _⟩ := h
    rfl
  obtain ⟨g, h, ns, ms, n, m, v, o, rfl, ⟨dx, t, us, hg, ht, hp⟩, ⟨dy, t2, us2, hh, ht2, hp2⟩, he, hQ⟩ := h
  have e1 : us.length = ns.length := paired_len hp
  have e2 : us2.length = ms.length := paired_len hp2
  refine ⟨_, PSs.nox (pss_cons (ps_if (PW.pt (pw_or (pt_not (pt_val (pe_callB call_isi (by rfl) T.isi_ PyProof.Rows.boot_isinstance (pa_cons (pv 2) (pa_cons (pe_bltn (v := .ty "tuple") (by rfl) T.tuple_ PyProof.Rows.boot_tuple rfl) pa_nil))))) (pw_or1 (pt_cmpR op_ne (pe_callB call_len (by rfl) T.len_ PySem.boot_len (pa_cons (pv 2) pa_nil)) pe_int (nomark _))))) (pss_one (ps_ret pe_bl)) pss_nil) (pss_one (ps_ret (pe_and (pe_cl c_is_from hr (by decide) rfl (pa_cons (pe_ix ix_tup (pv 2) pe_int (fun _ _ => rfl)) (pa_cons pe_int (pa_cons (pe_op op_sub (pe_callB call_len (by rfl) T.len_ PySem.boot_len (pa_cons (pe_fld (pv 0) rfl) pa_nil)) pe_int) pa_nil)))) (pe_one (pe_cl c_is_from hr (by decide) rfl (pa_cons (pe_ix ix_tup (pv 2) pe_int (fun _ _ => rfl)) (pa_cons pe_int (pa_cons (pe_op op_sub (pe_callB call_len (by rfl) T.len_ PySem.boot_len (pa_cons (pe_fld (pv 1) rfl) pa_nil)) pe_int) pa_nil))))))))), ?_⟩
  have cs : (∃ t, TyX K H v t ∧ PySem.W.kitOne K t (.type "tuple") = some false ∧ o.isSome = false) ∨ ∃ q us, v = .ref q ∧ H q = some (.tup us) ∧ ((us.length ≠ 2 ∧ us.length ≤ 100 ∧ o.isSome = false) ∨ ∃ x y, us = [x, y] ∧ Scal x ∧ Scal y ∧ (fromB x 0 ((ns.length : Int) - 1) && fromB y 0 ((ms.length : Int) - 1)) = o.isSome) := by
    cases o with
    | some p =>
      obtain ⟨⟨q, rfl, hq⟩, h1, h2⟩ := he
      exact .inr ⟨q, _, rfl, hq, .inr ⟨_, _, rfl, .int _, .int _, by rw [fromB_nat h1, fromB_nat h2]; rfl⟩⟩
    | none =>
      rcases he with he | ⟨q, us, h1, h2, h3⟩
      · obtain ⟨t, t1, t2⟩ := kit_of_tuple GG he
        exact .inl ⟨t, t1, t2, rfl⟩
      · refine .inr ⟨q, us, h1, h2, ?_⟩
        rcases h3 with h3 | h3
        · exact .inl ⟨h3.1, h3.2, rfl⟩
        · exact .inr h3
  rcases cs with ⟨ty, t1, t2, ho⟩ | ⟨q, qs, rfl, hq, hz⟩
  · refine ⟨_, rfl, v, .ty "tuple", ty, .type "tuple", false, rfl, .ty "tuple", t1, t2, _, rfl, iteT ?_⟩
    rw [ho] at hQ
    exact hQ
  · refine ⟨_, rfl, .ref q, .ty "tuple", .type "tuple", .type "tuple", true, rfl, .ty "tuple", .base (.tup hq), kit_ty (by decide +kernel), _, rfl, iteF ?_⟩
    refine ⟨_, rfl, _, qs.length, rfl, .inr ⟨_, SqT.of hq, rfl⟩, rfl, _, rfl, ?_⟩
    rcases hz with ⟨z1, z2, ho⟩ | ⟨x, y, rfl, sx, sy, ho⟩
    · rw [show (!decide (V.int (qs.length : Int) = V.int 2)) = true by rw [decide_eq_false (fun e => z1 (by injection e with e; omega))]; rfl]
      rw [ho] at hQ
      exact iteT hQ
    · refine iteF ?_
      refine ⟨_, rfl, q, _, _, _, rfl, rfl, SqT.of hq, rfl, _, rfl, g, C, dx, _, _, rfl, hg, GG.cl, GG.nN, gfs_nodes t n, .ref t, us.length, rfl, .inr ⟨_, SqT.of ht, rfl⟩, _, _, rfl, rfl, x, 0, _, rfl, sx, _, rfl, ?_⟩
      rw [e1]
      cases ex : fromB x 0 ((ns.length : Int) - 1) with
      | true =>
        refine iteT ⟨_, rfl, q, _, _, _, rfl, rfl, SqT.of hq, rfl, _, rfl, h, C, dy, _, _, rfl, hh, GG.cl, GG.nN, gfs_nodes t2 m, .ref t2, us2.length, rfl, .inr ⟨_, SqT.of ht2, rfl⟩, _, _, rfl, rfl, y, 0, _, rfl, sy, ?_⟩
        rw [e2]
        rw [ex, Bool.true_and] at ho
        rw [ho]
        exact hQ
      | false =>
        rw [ex, Bool.false_and] at ho
        rw [← ho] at hQ
        exact iteF hQ
/-- the list of bools at v, not D -/
def RB (D : Addr) (H : Hp) (v : V) (bs : List Bool) : Prop := ∃ l, v = .ref l ∧ l ≠ D ∧ H l = some (.lst (bs.map V.bl))
theorem gx_rb {D : Addr} : GX [] J0 D (RB D) := gx0 fun H H' v b k e ⟨l, h1, h2, h3⟩ => ⟨l, h1, h2, k.at1 h2 h3⟩
theorem w_stands (T : Txt K mg) (c_first_key : Cl P w K mg base 1 "first_key" spFirst) (D : Dn K mg "stands" s_stands) : Cl P w K mg base 2 "stands" spStands := by
  refine cl_of D sc_stands (fun vs H Q E h => ?_) (fun _ _ _ _ _ _ us hl => match us, hl with | [_, _, _], _ => rfl) fun f cdv A outer s H vs Q E hr h => ?_
  · obtain ⟨u, v, n, m, d, kvs, known, rfl, _⟩ := h
    rfl
  obtain ⟨u, v, n, m, d, kvs, known, rfl, hn, hm, l1, l2, y1, y2, hd, hkn, hQ⟩ := h
  have hu := hu_of hr
  refine ⟨_, PSs.nox (pss_cons (ps_if (pt_cmpR (op_neD hr.units) (pe_cl c_first_key hr (by decide) rfl (pa_cons (pv 0) pa_nil)) (pe_cl c_first_key hr (by decide) rfl (pa_cons (pv 1) pa_nil)) (nomark _)) (pss_one (ps_ret pe_bl)) pss_nil) (pss_cons (ps_if (pt_cmpR op_eq (pe_ix ix_tup (pv 0) pe_int (fun _ _ => rfl)) pe_str (nomark _)) (pss_one (ps_ret (pe_callB (cr_all rfl) (by rfl) T.all_ PyProof.Rows.boot_all (pa_cons (pe_lc (own := [("pair", 4)]) (g := (gName 4)) (tt := tYes) rfl sc_stands.nd (pi_zipN (by rfl) T.zip_ (pa_cons (pe_ix ix_tup (pv 0) pe_int (fun _ _ => rfl)) (pa_cons (pe_ix ix_tup (pv 1) pe_int (fun _ _ => rfl)) pa_nil))) (blkOk_by (own := [("pair", 4)]) (N := N_stands) (sc := (defScope s_stands)) (by decide +kernel)) (fun _ _ _ _ _ => (pg_name (i := 4) sc_stands.nd rfl (Or.inl rfl))) (fun _ _ _ _ _ => pts_nil) (fun _ _ _ _ _ => (pe_cmp (pc_din hu (pv 4) (pv 2))))) pa_nil)))) pss_nil) (pss_cons (ps_if (pt_cmpR op_eq (pe_ix ix_tup (pv 0) pe_int (fun _ _ => rfl)) pe_str (nomark _)) (pss_one (ps_ret pe_bl)) pss_nil) (pss_cons (ps_set (i := 3) sc_stands.nd rfl (Or.inr rfl) (pe_lc (own := [("entry", 5)]) (g := (gName 5)) (tt := tYes) rfl sc_stands.nd (pi_tup (pe_ix ix_tup (pv 0) pe_int (fun _ _ => rfl))) (blkOk_by (own := [("entry", 5)]) (N := N_stands) (sc := (defScope s_stands)) (by decide +kernel)) (fun _ _ _ _ _ => (pg_name (i := 5) sc_stands.nd rfl (Or.inr rfl))) (fun _ _ _ _ _ => pts_nil) (fun _ _ _ _ _ => (pe_lc (own := [("second", 6)]) (g := (gName 6)) (tt := tYes) rfl sc_stands.nd (kTup (K := K) rfl (pe_ix (kIxT (K := K) rfl) (pv 1) pe_int (fun _ _ => rfl))) (blkOk_by (own := [("second", 6)]) (N := N_stands) (sc := (relS _ (defScope s_stands))) (by decide +kernel)) (fun _ _ _ _ _ => (pg_name (i := 6) sc_stands.nd rfl (Or.inl rfl))) (fun _ _ _ _ _ => pts_nil) (fun _ _ _ _ _ => (pe_callB (kAll (K := K) rfl rfl) (by rfl) T.all_ PyProof.Rows.boot_all (pa_cons (pe_lc (own := [("pair", 4)]) (g := (gName 4)) (tt := tYes) rfl sc_stands.nd (kZipN (K := K) rfl (by rfl) T.zip_ (pa_cons (pv 5) (pa_cons (pv 6) pa_nil))) (blkOk_by (own := [("pair", 4)]) (N := N_stands) (sc := (relS _ (relS _ (defScope s_stands)))) (by decide +kernel)) (fun _ _ _ _ _ => (pg_name (i := 4) sc_stands.nd rfl (Or.inl rfl))) (fun _ _ _ _ _ => pts_nil) (fun _ _ _ _ _ => (pe_cmp (pc_din hu (pv 4) (pv 2))))) pa_nil))))))) (pss_one (ps_ret (pe_and (pe_callB (cr_all rfl) (by rfl) T.all_ PyProof.Rows.boot_all (pa_cons (pe_lc (own := [("row", 7)]) (g := (gName 7)) (tt := tYes) rfl sc_stands.nd (pi_list (pv 3)) (blkOk_by (own := [("row", 7)]) (N := N_stands) (sc := (defScope s_stands)) (by decide +kernel)) (fun _ _ _ _ _ => (pg_name (i := 7) sc_stands.nd rfl (Or.inl rfl))) (fun _ _ _ _ _ => pts_nil) (fun _ _ _ _ _ => (pe_callB (kAny (K := K) rfl rfl) (by rfl) T.any_ PyProof.Rows.boot_any (pa_cons (pv 7) pa_nil)))) pa_nil)) (pe_one (pe_callB (cr_all rfl) (by rfl) T.all_ PyProof.Rows.boot_all (pa_cons (pe_lc (own := [("k", 8)]) (g := (gName 8)) (tt := tYes) rfl sc_stands.nd (pi_range1 (by rfl) T.range_ (pa_cons (pe_callB call_len (by rfl) T.len_ PySem.boot_len (pa_cons (pe_ix ix_tup (pv 1) pe_int (fun _ _ => rfl)) pa_nil)) pa_nil)) (blkOk_by (own := [("k", 8)]) (N := N_stands) (sc := (defScope s_stands)) (by decide +kernel)) (fun _ _ _ _ _ => (pg_name (i := 8) sc_stands.nd rfl (Or.inr rfl))) (fun _ _ _ _ _ => pts_nil) (fun _ _ _ _ _ => (pe_callB (kAny (K := K) rfl rfl) (by rfl) T.any_ PyProof.Rows.boot_any (pa_cons (pe_lc (own := [("row", 7)]) (g := (gName 7)) (tt := tYes) rfl sc_stands.nd (kList (K := K) rfl (pv 3)) (blkOk_by (own := [("row", 7)]) (N := N_stands) (sc := (relS _ (defScope s_stands))) (by decide +kernel)) (fun _ _ _ _ _ => (pg_name (i := 7) sc_stands.nd rfl (Or.inl rfl))) (fun _ _ _ _ _ => pts_nil) (fun _ _ _ _ _ => (pe_ix (kIxL (K := K) rfl) (pv 7) (pv 8) (fun _ _ => rfl)))) pa_nil)))) pa_nil)))))))))), ?_⟩
  refine ⟨_, rfl, u, n, rfl, hn, l1, fun H1 v1 k1 f1 => ?_⟩
  refine ⟨_, rfl, v, m, rfl, hm.ext k1.ext0, l2, fun H2 v2 k2 f2 => ?_⟩
  obtain ⟨a1, rfl, f1, _⟩ := f1.ext k2.ext0
  obtain ⟨a2, rfl, f2, _⟩ := f2
  refine ⟨_, _, KeyV.dp _ _ f1, KeyV.dp _ _ f2, shaped_key y1, shaped_key y2, _, rfl, ?_⟩
  rw [dk_eqv]
  have k := k1.trans k2
  unfold standsP at hQ
  by_cases hf : firstKey n = firstKey m
  case neg =>
    rw [decide_eq_false hf] at hQ ⊢
    exact iteT (hQ H2 k)
  rw [decide_eq_true hf] at hQ ⊢
  simp only [Bool.true_and] at hQ
  obtain ⟨a, ct, rfl, ha, hct⟩ := hn.ext k.ext0
  obtain ⟨b, ct2, rfl, hb, hct2⟩ := hm.ext k.ext0
  have hd2 := k.at_ hd
  have mem : ∀ (x y : Nat), (valV kvs (keyOf (x, y))).isSome = decide ((x, y) ∈ known) := fun x y => by
    rw [valV_keys]
    exact decide_eq_decide.mpr (hkn (x, y))
  refine iteF ?_
  cases n with
  | sc t x =>
    refine ⟨_, rfl, a, _, _, _, rfl, rfl, SqT.of ha, rfl, rfl, _, rfl, iteF ?_⟩
    refine ⟨_, rfl, a, _, _, _, rfl, rfl, SqT.of ha, rfl, rfl, _, rfl, iteT ?_⟩
    exact hQ _ k
  | sq t xs =>
    cases m with
    | sc t' x' => exact absurd (first_kind hf) (by simp only [Nd.kind]; decide +kernel)
    | mp t' es => exact absurd (first_kind hf) (by simp only [Nd.kind]; decide +kernel)
    | sq t' ys =>
      obtain ⟨q, rfl, hx⟩ := hct
      obtain ⟨q2, rfl, hx2⟩ := hct2
      refine ⟨_, rfl, a, _, _, _, rfl, rfl, SqT.of ha, rfl, rfl, _, rfl, iteT ?_⟩
      refine ⟨_, rfl, a, _, _, _, rfl, rfl, SqT.of ha, rfl, _, rfl, b, _, _, _, rfl, rfl, SqT.of hb, rfl, q, q2, _, _, rfl, SqT.of hx, SqT.of hx2, fun D hD => ?_⟩
      have hzl : (xs.zip ys).length = min (xs.map nV).length (ys.map nV).length := by rw [List.length_zip, List.length_map, List.length_map]
      refine lc_it (walk_zipT (xs := xs.map nV) (ys := ys.map nV) (n := (xs.zip ys).length) hzl) (Gath H2 [] J0 D (xs.zip ys) (fun p => some (decide (p ∈ known))) (fun _ v b => v = .bl b)) (gath0 hD trivial) (fun _ H _ p => ⟨SqT.of (p.keep.at_ hx), SqT.of (p.keep.at_ hx2)⟩) ?_ ?_
      · rintro i x H4 H5 hi p ⟨tt, x1, x2, rfl, ht, rfl, e1, e2⟩
        obtain ⟨z1, hz1, rfl⟩ := map_get e1
        obtain ⟨z2, hz2, rfl⟩ := map_get e2
        refine ⟨rfl, yes_ ?_⟩
        have kt : Keep [] H4 (upd H4 tt (.tup [nV z1, nV z2])) := keep_new ht
        refine ⟨_, rfl, _, rfl, d, _, rfl, DGet.t (k := keyOf (z1, z2)) (kt.at_ (p.keep.at_ hd2)) upd_same, ?_⟩
        have ez : (xs.zip ys)[i]? = some (z1, z2) := List.getElem?_zip_eq_some.mpr ⟨hz1, hz2⟩
        have hxl : xs.length ≤ 4 := l1
        exact p.yes gx_flat hD ez (small_line (by rw [List.length_zip]; omega)) kt trivial rfl (congrArg V.bl (mem z1 z2))
      · intro H4 p
        obtain ⟨k4, _, ws, hy, hp⟩ := p.all rfl
        rw [fm_some] at hp
        rw [bl_list hp] at hy
        refine ⟨D, _, rfl, SqL.of hy, ?_⟩
        rw [List.all_map]
        exact hQ _ (k.trans k4)
  | mp t es =>
    cases m with
    | sc t' x' => exact absurd (first_kind hf) (by simp only [Nd.kind]; decide +kernel)
    | sq t' es => exact absurd (first_kind hf) (by simp only [Nd.kind]; decide +kernel)
    | mp t' fs =>
      obtain ⟨q, us, rfl, hx, hp⟩ := hct
      obtain ⟨q2, us2, rfl, hx2, hp2⟩ := hct2
      have e1 : us.length = es.length := paired_len hp
      have e2 : us2.length = fs.length := paired_len hp2
      have l1' : es.length ≤ 4 := l1
      have l2' : fs.length ≤ 4 := l2
      refine ⟨_, rfl, a, _, _, _, rfl, rfl, SqT.of ha, rfl, rfl, _, rfl, iteF ?_⟩
      refine ⟨_, rfl, a, _, _, _, rfl, rfl, SqT.of ha, rfl, rfl, _, rfl, iteF ?_⟩
      refine ⟨_, rfl, a, _, _, _, rfl, rfl, SqT.of ha, rfl, q, rfl, ⟨_, SqT.of hx⟩, fun D hD => ?_⟩
      refine lc_it (walk_tup (xs := us)) (Gath H2 [] J0 D es (fun e => some (fs.map (fitE known e))) (RB D)) (gath0 hD trivial) (fun _ H _ p => SqT.of (p.keep.at_ hx)) ?_ ?_
      · rintro i x H3 H4 hi p ⟨rfl, ex⟩
        obtain ⟨e, he, te, rfl, hte⟩ := paired_get hp ex
        have hte3 := p.keep.at_ hte
        refine ⟨rfl, yes_ ?_⟩
        refine ⟨_, rfl, b, _, _, _, rfl, rfl, SqT.of (p.keep.at_ hb), rfl, q2, rfl, ⟨_, SqT.of (p.keep.at_ hx2)⟩, fun D2 hD2 => ?_⟩
        have hDD : D2 ≠ D := by
          obtain ⟨_, _, ys, hy, _⟩ := p
          exact fun z => by subst z; rw [hD2] at hy; cases hy
        refine lc_it (walk_tup (xs := us2)) (Gath H4 [] J0 D2 fs (fun f => some (fitE known e f)) (fun _ v b => v = .bl b)) (gath0 hD2 trivial) (fun _ H _ p' => SqT.of (p'.keep.at_ (p.keep.at_ hx2))) ?_ ?_
        · rintro j y H5 H6 hj p2 ⟨rfl, ey⟩
          obtain ⟨g, hg, tg, rfl, htg⟩ := paired_get hp2 ey
          have kk := p.keep.trans p2.keep
          have htg5 := kk.at_ htg
          have hte5 := p2.keep.at_ hte3
          refine ⟨rfl, yes_ ?_⟩
          refine ⟨_, rfl, _, rfl, te, tg, _, _, rfl, SqT.of hte5, SqT.of htg5, fun D3 hD3 => ?_⟩
          refine lc_it (walk_zipT (xs := [e.1, e.2].map nV) (ys := [g.1, g.2].map nV) (n := 2) rfl) (Gath H6 [] J0 D3 ([e.1, e.2].zip [g.1, g.2]) (fun p => some (decide (p ∈ known))) (fun _ v b => v = .bl b)) (gath0 hD3 trivial) (fun _ H _ p => ⟨SqT.of (p.keep.at_ hte5), SqT.of (p.keep.at_ htg5)⟩) ?_ ?_
          · rintro m z H7 H8 hm' p3 ⟨tt, x1, x2, rfl, ht, rfl, e1, e2⟩
            obtain ⟨z1, hz1, rfl⟩ := map_get e1
            obtain ⟨z2, hz2, rfl⟩ := map_get e2
            refine ⟨rfl, yes_ ?_⟩
            have kt : Keep [] H7 (upd H7 tt (.tup [nV z1, nV z2])) := keep_new ht
            refine ⟨_, rfl, _, rfl, d, _, rfl, DGet.t (k := keyOf (z1, z2)) (kt.at_ (p3.keep.at_ (kk.at_ hd2))) upd_same, ?_⟩
            have ez : ([e.1, e.2].zip [g.1, g.2])[m]? = some (z1, z2) := List.getElem?_zip_eq_some.mpr ⟨hz1, hz2⟩
            exact p3.yes gx_flat hD3 ez (by show 2 < sizeLine; decide) kt trivial rfl (congrArg V.bl (mem z1 z2))
          · intro H7 p3
            obtain ⟨k7, _, ws, hy, hp3⟩ := p3.all rfl
            rw [fm_some] at hp3
            rw [bl_list hp3] at hy
            refine ⟨D3, _, rfl, SqL.of hy, ?_⟩
            exact p2.yes gx_flat hD2 hg (small_line (by omega)) k7 trivial rfl (congrArg V.bl (by unfold fitE; simp))
        · intro H5 p2
          obtain ⟨k5, _, ws, hy, hp3⟩ := p2.all e2
          rw [fm_some] at hp3
          rw [bl_list hp3] at hy
          exact p.yes gx_rb hD he (small_line (by omega)) k5 trivial rfl ⟨D2, rfl, hDD, hy⟩
      intro H3 p
      obtain ⟨k3, _, rows, hrows, hpr⟩ := p.all e1
      rw [fm_some] at hpr
      have kk := k.trans k3
      have rl : rows.length = es.length := by rw [paired_len hpr, List.length_map]
      have row : ∀ {i : Nat} {x : V}, rows[i]? = some x → ∃ e l, es[i]? = some e ∧ x = .ref l ∧ H3 l = some (.lst ((fs.map (fitE known e)).map V.bl)) := fun {i x} h => by
        obtain ⟨bs, hb, l, h1, _, h2⟩ := paired_get hpr h
        obtain ⟨e, he, rfl⟩ := map_get hb
        exact ⟨e, l, he, h1, h2⟩
      refine ⟨_, rfl, D, rfl, ⟨_, SqL.of hrows⟩, fun DA hDA => ?_⟩
      refine lc_it (walk_list (xs := rows)) (Gath H3 [] J0 DA es (fun e => some (fs.any (fitE known e))) (fun _ v b => v = .bl b)) (gath0 hDA trivial) (fun _ H _ p => SqL.of (p.keep.at_ hrows)) ?_ ?_
      · rintro i x H4 H5 hi p ⟨rfl, ex⟩
        obtain ⟨e, l, he, rfl, hl⟩ := row ex
        refine ⟨rfl, yes_ ?_⟩
        refine ⟨_, rfl, l, _, rfl, SqL.of (p.keep.at_ hl), ?_⟩
        exact p.yes gx_flat hDA he (small_line (by omega)) (Keep.refl _ _) trivial rfl (congrArg V.bl (by rw [List.any_map]; rfl))
      intro H4 pA
      obtain ⟨k4, _, wsA, hyA, hpA⟩ := pA.all rl
      rw [fm_some] at hpA
      rw [bl_list hpA] at hyA
      refine ⟨DA, _, rfl, SqL.of hyA, _, rfl, ?_⟩
      rw [List.all_map]
      have kk4 := kk.trans k4
      simp only [] at hQ
      cases eA : es.all (id ∘ fun e => fs.any (fitE known e)) with
      | false =>
        refine iteF ?_
        have : es.all (fun e => fs.any fun f => fitE known e f) = false := eA
        rw [this] at hQ
        exact hQ _ kk4
      | true =>
        have : es.all (fun e => fs.any fun f => fitE known e f) = true := eA
        rw [this, Bool.true_and] at hQ
        refine iteT ?_
        refine ⟨_, rfl, b, _, _, _, rfl, rfl, SqT.of (k4.at_ (k3.at_ hb)), rfl, _, us2.length, rfl, .inr ⟨_, SqT.of (k4.at_ (k3.at_ hx2)), rfl⟩, ?_⟩
        refine ⟨_, rfl, by omega, by omega, fun DB hDB => ?_⟩
        refine lc_it walk_range (Gath H4 [] J0 DB fs (fun f => some (es.any fun e => fitE known e f)) (fun _ v b => v = .bl b)) (gath0 hDB trivial) (fun _ _ _ _ => trivial) ?_ ?_
        · rintro i x H5 H6 hi p ⟨rfl, rfl⟩
          have hi' : i < fs.length := by omega
          have hg : fs[i]? = some fs[i] := List.getElem?_eq_getElem hi'
          refine ⟨rfl, yes_ ?_⟩
          have hrows5 := p.keep.at_ (k4.at_ hrows)
          refine ⟨_, rfl, D, rfl, ⟨_, SqL.of hrows5⟩, fun DC hDC => ?_⟩
          refine lc_it (walk_list (xs := rows)) (Gath H6 [] J0 DC es (fun e => some (fitE known e fs[i])) (fun _ v b => v = .bl b)) (gath0 hDC trivial) (fun _ H _ p => SqL.of (p.keep.at_ hrows5)) ?_ ?_
          · rintro j y H7 H8 hj p3 ⟨rfl, ey⟩
            obtain ⟨e, l, he, rfl, hl⟩ := row ey
            refine ⟨rfl, yes_ ?_⟩
            refine ⟨_, rfl, _, rfl, l, _, (i : Int), .bl (fitE known e fs[i]), rfl, (by show V.int (0 + (i : Int)) = _; rw [Int.zero_add]), SqL.of (p3.keep.at_ (p.keep.at_ (k4.at_ hl))), atI_nat (by rw [List.getElem?_map, List.getElem?_map, hg]; rfl), ?_⟩
            exact p3.yes gx_flat hDC he (small_line (by omega)) (Keep.refl _ _) trivial rfl rfl
          · intro H7 p3
            obtain ⟨k7, _, ws, hy, hp3⟩ := p3.all rl
            rw [fm_some] at hp3
            rw [bl_list hp3] at hy
            refine ⟨DC, _, rfl, SqL.of hy, ?_⟩
            exact p.yes gx_flat hDB hg (small_line (by omega)) k7 trivial rfl (congrArg V.bl (by rw [List.any_map]; rfl))
        · intro H5 p
          obtain ⟨k5, _, ws, hy, hp3⟩ := p.all (by omega)
          rw [fm_some] at hp3
          rw [bl_list hp3] at hy
          refine ⟨DB, _, rfl, SqL.of hy, ?_⟩
          rw [List.all_map]
          exact hQ _ (kk4.trans k5)
end
end Ap
set_option Elab.async false
set_option linter.all false
set_option maxRecDepth 100000
set_option maxHeartbeats 4000000
namespace Ap
open PySem PySem.Spec PyProof.Rows L2
abbrev N_judged : List Str := ["graph", "other", "paper", "known", "seen", "index", "pair"]
theorem sc_judged : FnScope N_judged ["graph", "other", "paper"] (defScope s_judged) := ⟨rfl, rfl, rfl, by decide +kernel, rfl, by decide +kernel, by decide +kernel⟩

def jV : Option Nat → V
  | none => .non
  | some i => nV i
/-- neither a list nor a tuple, whatever else comes -/
def NoSeq (K : PySem.W.Frag) (H : Hp) (v : V) : Prop := ∀ H', Keep [] H H' → ∃ t, TyX K H' v t ∧ PySem.W.kitAny K t [.type "list", .type "tuple"] = some false
def spJudged (K : PySem.W.Frag) (C : Addr) : Sp := fun vs H Q _ => ∃ (g h : Addr) (ns ms : List Nd) (n m : Nat) (v : V), vs = [.ref g, .ref h, v] ∧ GrAt C H g ns n ∧ GrAt C H h ms m ∧ Gok ns n ∧ Gok ms m ∧ (∀ nd ∈ ns, Lay nd) ∧ (∀ nd ∈ ms, Lay nd) ∧
  ((∃ q l us ppr, v = .ref q ∧ H q = some (qO l us) ∧ Paired (ElV C ns.length ms.length H) us ppr ∧ ppr.length ≤ 10000 ∧ ∀ H', Keep [] H H' → Q (jV (judge ns ms n m ppr)) H') ∨
    (NoSeq K H v ∧ ∀ H', Keep [] H H' → Q (.int (-1)) H'))
theorem judgeGo_some {ns ms : List Nd} {known seen : List (Nat × Nat)} {i : Nat} {p : Nat × Nat} {r : Ppr} : judgeGo ns ms known i seen (some p :: r) = if p ∈ seen then some i else if standsP known (ndAt ns p.1) (ndAt ms p.2) = true then judgeGo ns ms known (i + 1) (seen ++ [p]) r else some i := rfl
theorem known_snoc (p : Ppr) (o : Option (Nat × Nat)) : knownOf (p ++ [o]) = knownOf p ++ o.toList := by
  unfold knownOf
  rw [List.filterMap_append]
  cases o <;> simp
section
variable {P : Program} {w : World} {K : PySem.W.Frag} {mg : Str → Option Value} {base : Heap}
theorem lenS {K : PySem.W.Frag} {l : Bool} {H : Hp} {a : Addr} {xs : List V} (h : H a = some (qO l xs)) : LenV K (.ref a) H xs.length := by
  cases l with
  | true => exact .inl ⟨_, SqL.of h, rfl⟩
  | false => exact .inr ⟨_, SqT.of h, rfl⟩
theorem els_keep {C : Addr} {a b : Nat} {H H' : Hp} (k : Keep [] H H') {us : List V} {ppr : Ppr} (h : Paired (ElV C a b H) us ppr) : Paired (ElV C a b H') us ppr := Paired.mapP h fun _ _ q => q.keep k
theorem w_judged {C : Addr} (T : Txt K mg) (GG : GC K mg C) (c_require_graphs : Cl P w K mg base 1 "require_graphs" (spReq C)) (c_is_pair : Cl P w K mg base 2 "is_pair" (spIsPair C)) (c_stands : Cl P w K mg base 2 "stands" spStands)
    (D : Dn K mg "judged" s_judged) : Cl P w K mg base 3 "judged" (spJudged K C) := by
  refine cl_of D sc_judged (fun vs H Q E h => ?_) (fun _ _ _ _ _ _ us hl => match us, hl with | [_, _, _], _ => rfl) fun f cdv A outer s H vs Q E hr h => ?_
  · obtain ⟨g, h, ns, ms, n, m, v, rfl, _⟩ := h
    rfl
  obtain ⟨g, h, ns, ms, n, m, v, rfl, hg, hh, gn, gm, y1, y2, hcase⟩ := h
  have hu := hu_of hr
  refine ⟨_, PSs.nox (pss_cons (ps_expr (pe_cl c_require_graphs hr (by decide) rfl (pa_cons (pv 0) (pa_cons (pv 1) pa_nil)))) (pss_cons (ps_if (pt_not (pt_val (pe_callB call_isiT (by rfl) T.isi_ PyProof.Rows.boot_isinstance (pa_cons (pv 2) (pa_cons (pe_tup (pa_cons (pe_bltn (v := .ty "list") (by rfl) T.list_ PyProof.Rows.boot_list rfl) (pa_cons (pe_bltn (v := .ty "tuple") (by rfl) T.tuple_ PyProof.Rows.boot_tuple rfl) pa_nil))) pa_nil))))) (pss_one (ps_ret (pe_un un_neg pe_int))) pss_nil) (pss_cons (ps_setDcT (i := 3) (own := [("pair", 6)]) (g := (gName 6)) hu rfl sc_judged.nd rfl rfl (sw_trueD rfl rfl rfl (by decide +kernel)) (pi_seqA (pv 2)) (blkOk_by (own := [("pair", 6)]) (N := N_judged) (sc := (defScope s_judged)) (by decide +kernel)) (fun _ _ _ _ _ => (pg_name (i := 6) sc_judged.nd rfl (Or.inl rfl))) (fun _ _ _ _ _ => pts_one (pt_val (pe_cl c_is_pair hr (by decide) rfl (pa_cons (pv 0) (pa_cons (pv 1) (pa_cons (pv 6) pa_nil)))))) (fun _ _ _ _ _ => (pv 6)) (fun _ _ _ _ _ => pe_bl)) (pss_cons (ps_set (i := 4) sc_judged.nd rfl (Or.inl rfl) pe_dnewT) (pss_cons (ps_for PassesOwn.never rfl (pi_enumS (by rfl) T.enum_ (pa_cons (pv 2) pa_nil)) (pg_tup (by rfl) (pgs_cons (pg_name (i := 5) sc_judged.nd rfl (Or.inl rfl)) (pgs_cons (pg_name (i := 6) sc_judged.nd rfl (Or.inl rfl)) pgs_nil))) (pss_cons (ps_if (PW.pt (pw_or (pt_not (pt_val (pe_cl c_is_pair hr (by decide) rfl (pa_cons (pv 0) (pa_cons (pv 1) (pa_cons (pv 6) pa_nil)))))) (pw_or1 (pt_cmp (pc_din hu (pv 6) (pv 4)))))) (pss_one (ps_ret (pv 5))) pss_nil) (pss_cons (ps_if (pt_not (pt_val (pe_cl c_stands hr (by decide) rfl (pa_cons (pe_ix ix_tup (pe_fld (pv 0) rfl) (pe_ix ix_tup (pv 6) pe_int (fun _ _ => rfl)) (fun _ _ => rfl)) (pa_cons (pe_ix ix_tup (pe_fld (pv 1) rfl) (pe_ix ix_tup (pv 6) pe_int (fun _ _ => rfl)) (fun _ _ => rfl)) (pa_cons (pv 3) pa_nil)))))) (pss_one (ps_ret (pv 5))) pss_nil) (pss_one (ps_dput hu (pv 4) (pv 6) pe_bl rfl))))) (pss_one (ps_ret (pe_ifExp (pt_cmp (pc_din hu (pe_tup (pa_cons (pe_fld (pv 0) rfl) (pa_cons (pe_fld (pv 1) rfl) pa_nil))) (pv 3))) pe_non (pe_callB call_len (by rfl) T.len_ PySem.boot_len (pa_cons (pv 2) pa_nil)))))))))), ?_⟩
  refine ⟨_, rfl, _, rfl, _, _, rfl, hg.gr, hh.gr, fun H1 k1 => ?_⟩
  refine ⟨_, rfl, (by show 2 ≤ sizeLine; decide), fun tp htp => ?_⟩
  have k2 : Keep [] H (upd H1 tp (.tup [.ty "list", .ty "tuple"])) := k1.new htp
  have htup : upd H1 tp (.tup [.ty "list", .ty "tuple"]) tp = some (.tup [.ty "list", .ty "tuple"]) := upd_same
  generalize upd H1 tp (.tup [.ty "list", .ty "tuple"]) = H2 at *
  rcases hcase with ⟨q, l, us, ppr, rfl, hq, hp, hl, hQ⟩ | ⟨hno, hQ⟩
  case inr =>
    obtain ⟨t, t1, t2⟩ := hno H2 k2
    refine ⟨v, tp, _, t, [.type "list", .type "tuple"], false, rfl, htup, .cons (.ty _) (.cons (.ty _) .nil), t1, t2, _, rfl, iteT ?_⟩
    exact ⟨_, rfl, hQ _ k2⟩
  have hq2 := k2.at_ hq
  have hp2 := els_keep k2 hp
  have ul : us.length = ppr.length := paired_len hp
  refine ⟨.ref q, tp, _, _, [.type "list", .type "tuple"], true, rfl, htup, .cons (.ty _) (.cons (.ty _) .nil), ty_seq hq2, kit_seq l, _, rfl, iteF ?_⟩
  refine ⟨_, rfl, q, us, l, rfl, Sq.of hq2, fun Kd hKd => ?_⟩
  refine dc_it (walk_seq (xs := us)) (fun i H3 => Keep [] H2 H3 ∧ ∃ kvs, H3 Kd = some (.dT kvs) ∧ kvs.map (·.1) = (dd (knownOf (ppr.take i))).map keyOf) ⟨keep_new hKd, [], upd_same, rfl⟩ (fun _ H _ p => Sq.of (p.1.at_ hq2)) ?_ ?_
  · rintro i x H3 H4 hi ⟨k3, kvs, hkv, hkk⟩ ⟨rfl, e⟩
    obtain ⟨o, ho, he⟩ := paired_get hp2 e
    have k23 := k2.trans k3
    refine ⟨rfl, _, rfl, _, rfl, _, rfl, g, h, ns, ms, n, m, x, o, rfl, hg.keep k23, hh.keep k23, he.keep k3, _, rfl, ?_⟩
    cases o with
    | none =>
      refine iteF ⟨k3, kvs, hkv, ?_⟩
      rw [take_snoc ho, known_snoc]
      show _ = (dd (_ ++ [])).map keyOf
      rw [List.append_nil]
      exact hkk
    | some p =>
      obtain ⟨⟨tp2, rfl, htp2⟩, _⟩ := he.keep k3
      have hkl : kvs.length ≤ 10000 := by
        have h1 := congrArg List.length hkk
        rw [List.length_map, List.length_map] at h1
        have h2 := dd_len (knownOf (ppr.take i))
        have h3 : (knownOf (ppr.take i)).length ≤ (ppr.take i).length := List.length_filterMap_le _ _
        rw [List.length_take] at h3
        omega
      refine iteT ⟨_, rfl, kvs, keyOf p, tp2, rfl, htp2, hkv, small_line (by omega), k3.upd0 hKd, _, upd_same, ?_⟩
      rw [putK_keys, hkk, take_snoc ho, known_snoc, ddS_map]
      show _ = (dd (_ ++ [_])).map keyOf
      rw [dd_snoc]
  rintro H3 ⟨k3, kvs, hkv, hkk⟩
  rw [List.take_of_length_le (by omega)] at hkk
  have hkn : ∀ p, keyOf p ∈ kvs.map (·.1) ↔ p ∈ knownOf ppr := fun p => by
    rw [hkk]
    constructor
    · intro z
      obtain ⟨r, hr, e⟩ := List.mem_map.mp z
      rw [keyOf_inj e] at hr
      exact mem_dd.mp hr
    · exact fun z => List.mem_map.mpr ⟨p, mem_dd.mpr z, rfl⟩
  refine fun Sd hSd => ?_
  have kS : Keep [] H3 (upd H3 Sd (.dT [])) := keep_new hSd
  have k23 := k2.trans k3
  have hS0 : H Sd = none := none_of k23 hSd
  have hpl : (ppr.drop ppr.length) = [] := List.drop_length
  refine ⟨_, rfl, q, us, l, rfl, Sq.of ((k3.trans kS).at_ hq2), ?_⟩
  refine for_it (walk_enumS (xs := us)) (fun i σ H4 => Keep [] H3 H4 ∧ (∃ seen kv, H4 Sd = some (.dT kv) ∧ (∀ p, keyOf p ∈ kv.map (·.1) ↔ p ∈ seen) ∧ kv.length ≤ i ∧ judgeGo ns ms (knownOf ppr) 0 [] ppr = judgeGo ns ms (knownOf ppr) i seen (ppr.drop i)) ∧ ∃ u1 u2, σ = [some (.ref g), some (.ref h), some (.ref q), some (.ref Kd), some (.ref Sd), u1, u2])
    ⟨kS, ⟨[], [], upd_same, fun p => by simp, Nat.le_refl _, rfl⟩, _, _, rfl⟩ (fun i σ H4 _ z => Sq.of (z.1.at_ (k3.at_ hq2))) ?_ ?_
  · rintro i v σ H4 H5 hi ⟨k4, ⟨seen, kv, hkv4, hse, hkl, hjg⟩, u1, u2, rfl⟩ ⟨tt, x1, x2, rfl, ht, rfl, e1, e2⟩
    cases Option.some.inj e1
    obtain ⟨o, ho, he⟩ := paired_get hp e2
    have hi' : i < ppr.length := by omega
    have hdr : ppr.drop i = o :: ppr.drop (i + 1) := by
      rw [List.drop_eq_getElem_cons hi']
      rw [List.getElem?_eq_getElem hi'] at ho
      rw [Option.some.inj ho]
    rw [hdr] at hjg
    have kt : Keep [] H4 (upd H4 tt (.tup [.int (i : Nat), x2])) := keep_new ht
    have k5 := (k23.trans k4).trans kt
    have k35 := k4.trans kt
    have hkv5 := kt.at_ hkv4
    have htt : upd H4 tt (.tup [.int (i : Nat), x2]) tt = some (.tup [.int (i : Nat), x2]) := upd_same
    generalize upd H4 tt (.tup [.int (i : Nat), x2]) = H5 at *
    have hjd : ∀ b, judgeGo ns ms (knownOf ppr) 0 [] ppr = some b → judge ns ms n m ppr = some b := fun b z => by
      unfold judge
      rw [z]
    refine ⟨tt, _, rfl, SqT.of htt, rfl, _, _, rfl, _, _, rfl, rfl, ?_⟩
    refine ⟨_, rfl, _, rfl, _, rfl, g, h, ns, ms, n, m, x2, o, rfl, hg.keep k5, hh.keep k5, he.keep k5, _, rfl, ?_⟩
    have ret : judgeGo ns ms (knownOf ppr) 0 [] ppr = some i → Q (nV i) H5 := fun z => by
      have := hQ H5 k5
      rw [hjd i z] at this
      exact this
    cases o with
    | none =>
      refine iteT (iteT ⟨_, rfl, ret ?_⟩)
      rw [hjg]
      rfl
    | some p =>
      obtain ⟨i1, i2⟩ := p
      have he5 := he.keep k5
      obtain ⟨⟨tp2, rfl, htp2⟩, r1, r2⟩ := he5
      have r1 : i1 < ns.length := r1
      have r2 : i2 < ms.length := r2
      refine iteF ⟨_, rfl, _, rfl, Sd, _, rfl, DGet.t (k := keyOf (i1, i2)) hkv5 htp2, _, rfl, ?_⟩
      have hvk : (valV kv (keyOf (i1, i2))).isSome = decide ((i1, i2) ∈ seen) := by
        rw [valV_keys]
        exact decide_eq_decide.mpr (hse _)
      rw [hvk]
      rw [judgeGo_some] at hjg
      by_cases hin : (i1, i2) ∈ seen
      · rw [decide_eq_true hin]
        rw [if_pos hin] at hjg
        exact iteT ⟨_, rfl, ret hjg⟩
      · rw [decide_eq_false hin]
        rw [if_neg hin] at hjg
        obtain ⟨dx, t, tus, q1, q2, q3⟩ := hg.keep k5
        obtain ⟨dy, t2, tus2, q4, q5, q6⟩ := hh.keep k5
        obtain ⟨u1', hu1, hn1⟩ := paired_get' q3 (ndAt_get r1)
        obtain ⟨u2', hu2, hn2⟩ := paired_get' q6 (ndAt_get r2)
        have m1 := List.mem_of_getElem? (ndAt_get r1)
        have m2 := List.mem_of_getElem? (ndAt_get r2)
        refine iteF ?_
        refine ⟨_, rfl, g, C, dx, _, _, rfl, q1, GG.cl, GG.nN, gfs_nodes t n, _, rfl, tp2, _, _, _, rfl, rfl, SqT.of htp2, rfl, t, tus, _, _, rfl, rfl, SqT.of q2, atI_nat hu1, ?_⟩
        refine ⟨_, rfl, h, C, dy, _, _, rfl, q4, GG.cl, GG.nN, gfs_nodes t2 m, _, rfl, tp2, _, _, _, rfl, rfl, SqT.of htp2, rfl, t2, tus2, _, _, rfl, rfl, SqT.of q5, atI_nat hu2, ?_⟩
        refine ⟨_, rfl, u1', u2', ndAt ns i1, ndAt ms i2, Kd, kvs, knownOf ppr, rfl, hn1, hn2, (gn.ok _ m1).1, (gm.ok _ m2).1, y1 _ m1, y2 _ m2, k35.at_ hkv, hkn, fun H6 k6 => ⟨_, rfl, ?_⟩⟩
        by_cases hst : standsP (knownOf ppr) (ndAt ns i1) (ndAt ms i2) = true
        · rw [hst]
          rw [if_pos hst] at hjg
          refine iteF ⟨_, rfl, _, rfl, Sd, _, rfl, DPut.t (k := keyOf (i1, i2)) (v := .bl true) (k6.at_ hkv5) (k6.at_ htp2) (small_line (by omega)), ?_⟩
          refine ⟨(k35.trans k6).upd0 hSd, ⟨seen ++ [(i1, i2)], _, upd_same, fun p => ?_, ?_, hjg⟩, _, _, rfl⟩
          · rw [putK_keys, mem_ddS, List.mem_append, List.mem_singleton, hse]
            exact ⟨fun z => z.imp id keyOf_inj, fun z => z.imp id (congrArg keyOf)⟩
          · have := length_putK kv (keyOf (i1, i2)) (.bl true)
            omega
        · rw [if_neg hst] at hjg
          rw [Bool.not_eq_true] at hst
          rw [hst]
          refine iteT ⟨_, rfl, ?_⟩
          have := hQ H6 (k5.trans k6)
          rw [hjd i hjg] at this
          exact this
  · rintro σ H4 ⟨k4, ⟨seen, kv, hkv4, hse, hkl, hjg⟩, u1, u2, rfl⟩
    rw [ul, hpl] at hjg
    have hjn : judgeGo ns ms (knownOf ppr) 0 [] ppr = none := hjg
    have k5 := k23.trans k4
    obtain ⟨dx, t, tus, q1, q2, q3⟩ := hg.keep k5
    obtain ⟨dy, t2, tus2, q4, q5, q6⟩ := hh.keep k5
    refine ⟨_, rfl, g, C, dx, _, _, rfl, q1, GG.cl, GG.nT, gfs_top t n, _, rfl, h, C, dy, _, _, rfl, q4, GG.cl, GG.nT, gfs_top t2 m, (by show 2 ≤ sizeLine; decide), fun tk htk => ?_⟩
    have kk : Keep [] H4 (upd H4 tk (.tup [nV n, nV m])) := keep_new htk
    refine ⟨_, rfl, Kd, _, rfl, DGet.t (k := keyOf (n, m)) (kk.at_ (k4.at_ hkv)) upd_same, _, rfl, ?_⟩
    have hvk : (valV kvs (keyOf (n, m))).isSome = decide ((n, m) ∈ knownOf ppr) := by
      rw [valV_keys]
      exact decide_eq_decide.mpr (hkn _)
    have hr := hQ _ (k5.trans kk)
    unfold judge at hr
    rw [hjn] at hr
    simp only [] at hr
    rw [hvk]
    by_cases hin : (n, m) ∈ knownOf ppr
    · rw [if_pos hin] at hr
      rw [decide_eq_true hin]
      exact iteT hr
    · rw [if_neg hin] at hr
      rw [decide_eq_false hin]
      refine iteF ⟨_, rfl, _, us.length, rfl, lenS (kk.at_ (k5.at_ hq)), ?_⟩
      rw [ul]
      exact hr
end
end Ap
set_option Elab.async false
set_option linter.all false
set_option maxRecDepth 100000
set_option maxHeartbeats 4000000
namespace Ap
open PySem PySem.Spec PyProof.Rows L2
abbrev N_law_cell_at : List Str := ["_law_script", "_law_k"]
theorem sc_law_cell_at : FnScope N_law_cell_at ["_law_script", "_law_k"] (defScope s_law_cell_at) := ⟨rfl, rfl, rfl, by decide +kernel, rfl, by decide +kernel, by decide +kernel⟩

abbrev N_law_well : List Str := ["_law_cell"]
theorem sc_law_well : FnScope N_law_well ["_law_cell"] (defScope s_law_well) := ⟨rfl, rfl, rfl, by decide +kernel, rfl, by decide +kernel, by decide +kernel⟩

abbrev N_law_draw : List Str := ["_law_well_here", "_law_bound", "_law_digit", "_law_mixed"]
theorem sc_law_draw : FnScope N_law_draw ["_law_well_here", "_law_bound"] (defScope s_law_draw) := ⟨rfl, rfl, rfl, by decide +kernel, rfl, by decide +kernel, by decide +kernel⟩

abbrev N_law_one : List Str := ["_law_well_here", "_law_some"]
theorem sc_law_one : FnScope N_law_one ["_law_well_here", "_law_some"] (defScope s_law_one) := ⟨rfl, rfl, rfl, by decide +kernel, rfl, by decide +kernel, by decide +kernel⟩

def WellV (H : Hp) (w : Addr) : Prop := ∃ a b c : Int, H w = some (.lst [.int a, .int b, .int c])
theorem WellV.keep {H H' : Hp} {w : Addr} (k : Keep [] H H') (h : WellV H w) : WellV H' w := by
  obtain ⟨a, b, c, h⟩ := h
  exact ⟨a, b, c, k.at_ h⟩
def spCellAt (K : PySem.W.Frag) : Sp := fun vs H Q _ => ∃ (l : Addr) (ns : List Int) (j : Nat), vs = [.ref l, nV j] ∧ SqL K H l (ns.map V.int) ∧ ∀ i : Int, Q (.int i) H
def spWell : Sp := fun vs H Q _ => ∃ i : Int, vs = [.int i] ∧ ∀ H' p, Keep [] H H' → H p = none → WellV H' p → Q (.ref p) H'
def spDraw : Sp := fun vs H Q _ => ∃ (l : Addr) (B : Nat), vs = [.ref l, nV B] ∧ WellV H l ∧ 0 < B ∧ B ≤ 100000 ∧ ∀ H' r, Keep [l] H H' → WellV H' l → r < B → Q (nV r) H'
def spOne : Sp := fun vs H Q _ => ∃ (l a : Addr) (xs : List V), vs = [.ref l, .ref a] ∧ WellV H l ∧ H a = some (.lst xs) ∧ a ≠ l ∧ xs ≠ [] ∧ xs.length ≤ 100000 ∧ ∀ H' v, Keep [l] H H' → WellV H' l → v ∈ xs → Q v H'
section
variable {P : Program} {w : World} {K : PySem.W.Frag} {mg : Str → Option Value} {base : Heap}
theorem w_cell_at (T : Txt K mg) (D : Dn K mg "_law_cell_at" s_law_cell_at) : Cl P w K mg base 1 "_law_cell_at" (spCellAt K) := by
  refine cl_of D sc_law_cell_at (fun vs H Q E h => ?_) (fun _ _ _ _ _ _ us hl => match us, hl with | [_, _], _ => rfl) fun f cdv A outer s H vs Q E hr h => ?_
  · obtain ⟨l, ns, j, rfl, _⟩ := h
    rfl
  obtain ⟨l, ns, j, rfl, hl, hQ⟩ := h
  refine ⟨_, PSs.nox (pss_one (ps_ret (pe_ifExp (pt_cmpR op_lt (pv 1) (pe_callB call_len (by rfl) T.len_ PySem.boot_len (pa_cons (pv 0) pa_nil)) (nomark _)) (pe_ix ix_list (pv 0) (pv 1) (fun _ _ => rfl)) pe_int))), ?_⟩
  refine ⟨_, rfl, _, rfl, _, (ns.map V.int).length, rfl, .inl ⟨_, hl, rfl⟩, _, _, rfl, rfl, _, rfl, ?_⟩
  by_cases e : (j : Int) < ((ns.map V.int).length : Int)
  · rw [decide_eq_true e]
    have e' : j < ns.length := by rw [List.length_map] at e; omega
    refine iteT ⟨_, rfl, _, rfl, l, _, _, .int ns[j], rfl, rfl, hl, atI_nat (by rw [List.getElem?_map, List.getElem?_eq_getElem e']; rfl), hQ _⟩
  · rw [decide_eq_false e]
    exact iteF (hQ _)
theorem w_well (T : Txt K mg) (D : Dn K mg "_law_well" s_law_well) : Cl P w K mg base 1 "_law_well" spWell := by
  refine cl_of D sc_law_well (fun vs H Q E h => ?_) (fun _ _ _ _ _ _ us hl => match us, hl with | [_], _ => rfl) fun f cdv A outer s H vs Q E hr h => ?_
  · obtain ⟨i, rfl, _⟩ := h
    rfl
  obtain ⟨i, rfl, hQ⟩ := h
  refine ⟨_, PSs.nox (pss_one (ps_ret (pe_lst (pa_cons (pe_op op_mul (pv 0) (pe_callTy call_int1 (by rfl) T.int_ PyProof.Rows.boot_int (pa_cons (pe_cmpR op_ge (pv 0) (pe_op op_pow pe_int pe_int) (nomark _)) pa_nil))) (pa_cons (pe_op op_mod (pe_callTy call_int1 (by rfl) T.int_ PyProof.Rows.boot_int (pa_cons (pv 0) pa_nil)) pe_int) (pa_cons pe_int pa_nil)))))), ?_⟩
  refine ⟨_, rfl, _, rfl, _, _, rfl, rfl, ⟨by decide, by decide, by decide⟩, _, _, rfl, rfl, .inr ⟨_, rfl, _, _, rfl, rfl, .inr ?_, ?_⟩⟩
  · constructor <;> split <;> decide
  refine ⟨_, rfl, .inl ⟨_, rfl, _, _, rfl, rfl, (by show (0 : Int) < 2147483629; decide), (by show 3 ≤ sizeLine; decide), fun p hp => ?_⟩⟩
  exact hQ _ p (keep_new hp) hp ⟨_, _, _, upd_same⟩
theorem mrC (x m : Int) (h : 0 < m) : 0 ≤ x % m ∧ x % m < m := ⟨Int.emod_nonneg _ (by omega), Int.emod_lt_of_pos _ h⟩
theorem w_draw (T : Txt K mg) (D : Dn K mg "_law_draw" s_law_draw) : Cl P w K mg base 1 "_law_draw" spDraw := by
  refine cl_of D sc_law_draw (fun vs H Q E h => ?_) (fun _ _ _ _ _ _ us hl => match us, hl with | [_, _], _ => rfl) fun f cdv A outer s H vs Q E hr h => ?_
  · obtain ⟨i, B, rfl, _⟩ := h
    rfl
  obtain ⟨l, B, rfl, ⟨a, b, c, hl⟩, hB, hB2, hQ⟩ := h
  have kl : ∀ {H0 : Hp} {o : HO}, Keep [l] H H0 → Keep [l] H (upd H0 l o) := fun k => k.updm (List.mem_singleton.mpr rfl)
  have mr : ∀ x : Int, 0 ≤ x % (B : Int) ∧ x % (B : Int) < (B : Int) := fun x => ⟨Int.emod_nonneg _ (by omega), Int.emod_lt_of_pos _ (by omega)⟩
  have fin : ∀ (H' : Hp) (x : Int), Keep [l] H H' → WellV H' l → Q (.int (x % (B : Int))) H' := fun H' x k wv => by
    obtain ⟨h1, h2⟩ := mr x
    have := hQ H' (x % (B : Int)).toNat k wv (by omega)
    rw [show nV (x % (B : Int)).toNat = .int (x % (B : Int)) from congrArg V.int (Int.toNat_of_nonneg h1)] at this
    exact this
  refine ⟨_, PSs.nox (pss_cons (ps_if (pt_cmpR op_gt (pe_ix ix_list (pv 0) pe_int (fun _ _ => rfl)) pe_int (nomark _)) (pss_cons (ps_set (i := 2) sc_law_draw.nd rfl (Or.inl rfl) (pe_op op_mod (pe_callTy call_int1 (by rfl) T.int_ PyProof.Rows.boot_int (pa_cons (pe_ix ix_list (pv 0) pe_int (fun _ _ => rfl)) pa_nil)) (pv 1))) (pss_cons (ps_asg (pe_op op_fdiv (pe_ix ix_list (pv 0) pe_int (fun _ _ => rfl)) (pv 1)) (pg_sub (pv 0) pe_int set_list)) (pss_one (ps_ret (pv 2))))) pss_nil) (pss_cons (ps_asg (pe_op op_add (pe_ix ix_list (pv 0) pe_int (fun _ _ => rfl)) pe_int) (pg_sub (pv 0) pe_int set_list)) (pss_cons (ps_set (i := 3) sc_law_draw.nd rfl (Or.inl rfl) (pe_op op_mod (pe_callTy call_int1 (by rfl) T.int_ PyProof.Rows.boot_int (pa_cons (pe_op op_mul (pe_op op_add (pe_op op_add (pe_ix ix_list (pv 0) pe_int (fun _ _ => rfl)) (pe_op op_mul pe_int (pe_ix ix_list (pv 0) pe_int (fun _ _ => rfl)))) pe_int) pe_int) pa_nil)) pe_int)) (pss_cons (ps_set (i := 3) sc_law_draw.nd rfl (Or.inl rfl) (pe_op op_mod (pe_callTy call_int1 (by rfl) T.int_ PyProof.Rows.boot_int (pa_cons (pe_op op_mul (pv 3) (pe_op op_add (pe_op op_add (pe_op op_fdiv (pv 3) pe_int) pe_int) (pe_ix ix_list (pv 0) pe_int (fun _ _ => rfl)))) pa_nil)) pe_int)) (pss_one (ps_ret (pe_op op_mod (pe_callTy call_int1 (by rfl) T.int_ PyProof.Rows.boot_int (pa_cons (pe_op op_fdiv (pe_op op_mod (pe_callTy call_int1 (by rfl) T.int_ PyProof.Rows.boot_int (pa_cons (pe_op op_mul (pv 3) (pe_op op_add (pe_op op_fdiv (pv 3) pe_int) pe_int)) pa_nil)) pe_int) pe_int) pa_nil)) (pv 1)))))))), ?_⟩
  refine ⟨_, rfl, l, _, _, _, rfl, rfl, SqL.of hl, rfl, _, _, rfl, rfl, _, rfl, ?_⟩
  by_cases e : (0 : Int) < a
  · rw [decide_eq_true e]
    refine iteT ⟨_, rfl, l, _, _, _, rfl, rfl, SqL.of hl, rfl, .inl ⟨_, rfl, _, rfl, _, _, rfl, rfl, (by show (0 : Int) < (B : Int); omega), ?_⟩⟩
    refine ⟨_, rfl, l, _, _, _, rfl, rfl, SqL.of hl, rfl, _, rfl, _, _, rfl, rfl, ⟨by omega, by omega⟩, ?_⟩
    refine ⟨_, rfl, l, _, _, 0, rfl, rfl, hl, rfl, _, rfl, ?_⟩
    exact fin _ _ (kl (Keep.refl _ _)) ⟨_, _, _, upd_same⟩
  · rw [decide_eq_false e]
    refine iteF ⟨_, rfl, l, _, _, _, rfl, rfl, SqL.of hl, rfl, _, _, rfl, rfl, ?_⟩
    refine ⟨_, rfl, l, _, _, 2, rfl, rfl, hl, rfl, ?_⟩
    have h2 : upd H l (.lst [.int a, .int b, .int (c + 1)]) l = some (.lst [.int a, .int b, .int (c + 1)]) := upd_same
    have k2 : Keep [l] H (upd H l (.lst [.int a, .int b, .int (c + 1)])) := kl (Keep.refl _ _)
    refine ⟨_, rfl, l, _, _, _, rfl, rfl, SqL.of h2, rfl, _, rfl, l, _, _, _, rfl, rfl, SqL.of h2, rfl, _, _, rfl, rfl, .inl ⟨by decide, by decide⟩, _, _, rfl, rfl, _, _, rfl, rfl, _, _, rfl, rfl, .inr ⟨by decide, by decide⟩, .inl ⟨_, rfl, _, _, rfl, rfl, (by show (0 : Int) < 2147483647; decide), ?_⟩⟩
    have m1 := mrC ((b + 9973 * (c + 1) + 17) * 48271) 2147483647 (by decide)
    generalize (b + 9973 * (c + 1) + 17) * 48271 % 2147483647 = x1 at m1 ⊢
    refine ⟨_, rfl, _, rfl, _, _, rfl, rfl, ⟨by decide, by decide⟩, _, _, rfl, rfl, _, rfl, l, _, _, _, rfl, rfl, SqL.of h2, rfl, _, _, rfl, rfl, _, _, rfl, rfl, .inl ⟨by omega, by omega⟩, .inl ⟨_, rfl, _, _, rfl, rfl, (by show (0 : Int) < 2147483587; decide), ?_⟩⟩
    have m2 := mrC (x1 * (x1 / 1021 + 69621 + (c + 1))) 2147483587 (by decide)
    generalize x1 * (x1 / 1021 + 69621 + (c + 1)) % 2147483587 = x2 at m2 ⊢
    refine ⟨_, rfl, _, rfl, _, _, rfl, rfl, ⟨by decide, by decide⟩, _, _, rfl, rfl, _, _, rfl, rfl, .inl ⟨by omega, by omega⟩, .inl ⟨_, rfl, _, _, rfl, rfl, (by show (0 : Int) < 2147483399; decide), _, _, rfl, rfl, ⟨by decide, by decide⟩, .inl ⟨_, rfl, _, rfl, _, _, rfl, rfl, (by show (0 : Int) < (B : Int); omega), ?_⟩⟩⟩
    exact fin _ _ k2 ⟨_, _, _, h2⟩
theorem w_one (T : Txt K mg) (c_law_draw : Cl P w K mg base 1 "_law_draw" spDraw) (D : Dn K mg "_law_one" s_law_one) : Cl P w K mg base 2 "_law_one" spOne := by
  refine cl_of D sc_law_one (fun vs H Q E h => ?_) (fun _ _ _ _ _ _ us hl => match us, hl with | [_, _], _ => rfl) fun f cdv A outer s H vs Q E hr h => ?_
  · obtain ⟨l, a, xs, rfl, _⟩ := h
    rfl
  obtain ⟨l, a, xs, rfl, wv, ha, hne, hx, hxl, hQ⟩ := h
  refine ⟨_, PSs.nox (pss_one (ps_ret (pe_ix ix_list (pv 1) (pe_cl c_law_draw hr (by decide) rfl (pa_cons (pv 0) (pa_cons (pe_callB call_len (by rfl) T.len_ PySem.boot_len (pa_cons (pv 1) pa_nil)) pa_nil))) (fun _ _ => rfl)))), ?_⟩
  have hpos : 0 < xs.length := List.length_pos_iff.mpr hx
  refine ⟨_, rfl, _, rfl, _, rfl, _, xs.length, rfl, .inl ⟨_, SqL.of ha, rfl⟩, l, xs.length, rfl, wv, hpos, hxl, fun H' r k wv' hr' => ?_⟩
  refine ⟨a, _, _, xs[r], rfl, rfl, SqL.of (k.at1 hne ha), atI_nat (List.getElem?_eq_getElem hr'), hQ _ _ k wv' (List.getElem_mem hr')⟩
end
end Ap
set_option Elab.async false
set_option linter.all false
set_option maxRecDepth 100000
set_option maxHeartbeats 4000000
namespace Ap
open PySem PySem.Spec PyProof.Rows L2
abbrev N_law_node : List Str := ["_law_well_here", "_law_size", "_law_way", "_law_some", "_law_turn"]
theorem sc_law_node : FnScope N_law_node ["_law_well_here", "_law_size"] (defScope s_law_node) := ⟨rfl, rfl, rfl, by decide +kernel, rfl, by decide +kernel, by decide +kernel⟩

abbrev N_law_nodes : List Str := ["_law_well_here", "_law_size", "_law_found", "_law_k", "_law_again"]
theorem sc_law_nodes : FnScope N_law_nodes ["_law_well_here", "_law_size"] (defScope s_law_nodes) := ⟨rfl, rfl, rfl, by decide +kernel, rfl, by decide +kernel, by decide +kernel⟩

def TxtOk : Nd → Prop
  | .sc _ x => x = "a" ∨ x = "b" ∨ x = ""
  | _ => True
def mlen : Nd → Nat
  | .mp _ es => es.length
  | _ => 0
/-- a node as the law draws it -/
def Nf (m : Nat) (n : Nd) : Prop := n.below m ∧ Tag n.tag ∧ (n.len ≤ 3 ∧ mlen n ≤ 2) ∧ TxtOk n
def nodeKey : Nd → NestedKey
  | .sc t x => .tup [.text "scalar", .text t, .text x]
  | .sq t xs => .tup [.text "sequence", .text t, .tup (xs.map kn)]
  | .mp t es => .tup [.text "mapping", .text t, .tup (es.map pk)]
theorem keyAll_of {α : Type} {H : Hp} {R : V → α → Prop} {f : α → NestedKey} (h : ∀ v x, R v x → KeyV H (f x) v) : ∀ {vs : List V} {xs : List α}, Paired R vs xs → KeyAll H (xs.map f) vs
  | _, _, .nil => .nil
  | _, _, .cons q t => .cons (h _ _ q) (keyAll_of h t)
theorem pairV_key' {H : Hp} {v : V} {p : Nat × Nat} (h : PairV H v p) : KeyV H (pk p) v := by
  obtain ⟨a, rfl, h⟩ := h
  exact .tup h (.cons (.num _) (.cons (.num _) .nil))
theorem nodeKey_of {H : Hp} {v : V} {n : Nd} (h : NdV H v n) : KeyV H (nodeKey n) v := by
  obtain ⟨a, c, rfl, ha, hc⟩ := h
  cases n with
  | sc t x =>
    obtain rfl : c = .str x := hc
    exact .tup ha (.cons (.text _) (.cons (.text _) (.cons (.text _) .nil)))
  | sq t xs =>
    obtain ⟨q, rfl, hx⟩ := hc
    exact .tup ha (.cons (.text _) (.cons (.text _) (.cons (.tup hx (keyAll_of (R := fun v x => v = nV x) (fun v x q => by rw [q]; exact .num _) (paired_self _ xs))) .nil)))
  | mp t es =>
    obtain ⟨q, us, rfl, hx, hp⟩ := hc
    exact .tup ha (.cons (.text _) (.cons (.text _) (.cons (.tup hx (keyAll_of (fun _ _ q => pairV_key' q) hp)) .nil)))
theorem str_lay {z : Str} (h : Tag z ∨ z = "a" ∨ z = "b" ∨ z = "" ∨ z = "scalar" ∨ z = "sequence" ∨ z = "mapping") : (dk (.text z)).canLay0 = true := by
  rcases h with (rfl | rfl | rfl | rfl | rfl | rfl) | rfl | rfl | rfl | rfl | rfl | rfl <;> decide +kernel
theorem lay3 {a b c : NestedKey} (h1 : (dk a).canLay0 = true ∧ (dk a).depth ≤ 2) (h2 : (dk b).canLay0 = true ∧ (dk b).depth ≤ 2) (h3 : (dk c).canLay0 = true ∧ (dk c).depth ≤ 2) : (dk (.tup [a, b, c])).canLay0 = true ∧ (dk (.tup [a, b, c])).depth ≤ 8 := by
  constructor
  · simp only [dk, dkAll, PyData.canLay0, PyData.canLayAll0, h1.1, h2.1, h3.1]
    rfl
  · have a1 := h1.2
    have a2 := h2.2
    have a3 := h3.2
    simp only [dk, dkAll, PyData.depth, PyData.depthAll]
    omega
theorem tx {z : Str} (h : Tag z ∨ z = "a" ∨ z = "b" ∨ z = "" ∨ z = "scalar" ∨ z = "sequence" ∨ z = "mapping") : (dk (.text z)).canLay0 = true ∧ (dk (.text z)).depth ≤ 2 := ⟨str_lay h, Nat.zero_le _⟩
theorem txs : (dk (.text "scalar")).canLay0 = true ∧ (dk (.text "scalar")).depth ≤ 2 := tx (.inr (.inr (.inr (.inr (.inl rfl)))))
theorem txq : (dk (.text "sequence")).canLay0 = true ∧ (dk (.text "sequence")).depth ≤ 2 := tx (.inr (.inr (.inr (.inr (.inr (.inl rfl))))))
theorem txm : (dk (.text "mapping")).canLay0 = true ∧ (dk (.text "mapping")).depth ≤ 2 := tx (.inr (.inr (.inr (.inr (.inr (.inr rfl))))))
theorem tup_lay {ks : List NestedKey} (h : ∀ k ∈ ks, (dk k).canLay0 = true ∧ (dk k).depth ≤ 1) : (dk (.tup ks)).canLay0 = true ∧ (dk (.tup ks)).depth ≤ 2 := by
  have h1 := dkAll_lay ks fun k hk => (h k hk).1
  have h2 := dkAll_depth (n := 1) ks fun k hk => (h k hk).2
  constructor
  · rw [dk, PyData.canLay0, h1]
  · rw [dk, PyData.depth]
    omega
theorem node_lay {n : Nd} (ht : Tag n.tag) (hx : TxtOk n) : (dk (nodeKey n)).canLay0 = true ∧ (dk (nodeKey n)).depth ≤ 8 := by
  cases n with
  | sc t x => exact lay3 txs (tx (.inl ht)) (tx (.inr (by rcases hx with h | h | h <;> simp [h])))
  | sq t xs => exact lay3 txq (tx (.inl ht)) (tup_lay fun k hk => by
      obtain ⟨x, _, rfl⟩ := List.mem_map.mp hk
      exact ⟨rfl, Nat.zero_le _⟩)
  | mp t es => exact lay3 txm (tx (.inl ht)) (tup_lay fun k hk => by
      obtain ⟨p, _, rfl⟩ := List.mem_map.mp hk
      exact ⟨(lay_pair p).1, by simp [pk, kn, dk, dkAll, PyData.depth, PyData.depthAll]⟩)
theorem first_lay {n : Nd} (ht : Tag n.tag) (hx : TxtOk n) : (dk (firstKey n)).canLay0 = true ∧ (dk (firstKey n)).depth ≤ 8 := by
  cases n with
  | sc t x => exact lay3 txs (tx (.inl ht)) (tx (.inr (by rcases hx with h | h | h <;> simp [h])))
  | sq t xs => exact lay3 txq (tx (.inl ht)) ⟨rfl, Nat.zero_le _⟩
  | mp t es => exact lay3 txm (tx (.inl ht)) ⟨rfl, Nat.zero_le _⟩
def spLNode : Sp := fun vs H Q _ => ∃ (l : Addr) (m : Nat), vs = [.ref l, nV m] ∧ WellV H l ∧ 0 < m ∧ m ≤ 1000 ∧ ∀ H' v n, Keep [l] H H' → WellV H' l → NdV H' v n → Nf m n → Q v H'
def spLNodes : Sp := fun vs H Q _ => ∃ (l : Addr) (m : Nat), vs = [.ref l, nV m] ∧ WellV H l ∧ 0 < m ∧ m ≤ 1000 ∧ ∀ H' p us ns, Keep [l] H H' → WellV H' l → H p = none → H' p = some (.lst us) → Paired (NdV H') us ns → ns.length = m → (∀ n ∈ ns, Nf m n) → Q (.ref p) H'
theorem WellV.ne {H : Hp} {l p : Addr} (h : WellV H l) (hp : H p = none) : p ≠ l := fun q => by
  subst q
  obtain ⟨a, b, c, h⟩ := h
  rw [hp] at h
  cases h
theorem WellV.upd {H : Hp} {l p : Addr} {o : HO} (h : WellV H l) (hp : p ≠ l) : WellV (upd H p o) l := by
  obtain ⟨a, b, c, h⟩ := h
  exact ⟨a, b, c, by rw [upd_ne hp.symm]; exact h⟩
theorem WellV.nt {H : Hp} {l : Addr} (h : WellV H l) (xs : List V) : H l ≠ some (.tup xs) := by
  obtain ⟨a, b, c, h⟩ := h
  rw [h]
  intro z
  cases z
theorem WellV.ext {H H' : Hp} {l : Addr} (h : WellV H l) (k : Keep [l] H H') : Ext H H' := k.ext fun a q xs => by
  rw [List.mem_singleton.mp q]
  exact h.nt xs
/-- a comprehension that draws from the well l -/
theorem gxw {β : Type} {l D : Addr} {R : Hp → V → β → Prop} (hD : D ≠ l) (h : ∀ H H' v b, Ext H H' → R H v b → R H' v b) : GX [l] (fun H => WellV H l) D R :=
  ⟨fun q => hD (List.mem_singleton.mp q), fun H a xs w q => by rw [List.mem_singleton.mp q]; exact w.nt xs, fun H o w => w.upd hD, fun H H' v b _ e r => h H H' v b e r⟩
theorem none_ofw {l : Addr} {H H' : Hp} {p : Addr} (k : Keep [l] H H') (hp : p ≠ l) (h : H' p = none) : H p = none := by
  cases e : H p with
  | none => rfl
  | some o => exact absurd (k.at1 hp e) (by rw [h]; intro z; cases z)
theorem units_nats {B : Nat} : ∀ {ys : List V} {us : List Unit}, Paired (fun v (_ : Unit) => ∃ r : Nat, r < B ∧ v = nV r) ys us → ∃ rs : List Nat, ys = rs.map nV ∧ (∀ r ∈ rs, r < B) ∧ rs.length = us.length
  | _, _, .nil => ⟨[], rfl, fun r h => by simp at h, rfl⟩
  | _, _, .cons ⟨r, h1, h2⟩ t => by
    obtain ⟨rs, e1, e2, e3⟩ := units_nats t
    refine ⟨r :: rs, by rw [h2, e1]; rfl, fun x hx => ?_, by rw [List.length_cons, List.length_cons, e3]⟩
    rcases List.mem_cons.mp hx with rfl | hx
    · exact h1
    · exact e2 x hx
theorem units_of {α : Type} {H : Hp} {R : Hp → V → α → Prop} {C : α → Prop} : ∀ {ys : List V} {us : List Unit}, Paired (fun v (_ : Unit) => ∃ p, R H v p ∧ C p) ys us → ∃ ps : List α, Paired (R H) ys ps ∧ (∀ p ∈ ps, C p) ∧ ps.length = us.length
  | _, _, .nil => ⟨[], .nil, fun r h => by simp at h, rfl⟩
  | _, _, .cons ⟨r, h1, h2⟩ t => by
    obtain ⟨rs, e1, e2, e3⟩ := units_of t
    refine ⟨r :: rs, .cons h1 e1, fun x hx => ?_, by rw [List.length_cons, List.length_cons, e3]⟩
    rcases List.mem_cons.mp hx with rfl | hx
    · exact h2
    · exact e2 x hx
theorem fm_unit (xs : List Unit) : xs.filterMap (fun _ => some ()) = xs := by
  induction xs with
  | nil => rfl
  | cons x xs ih => rw [List.filterMap_cons, ih]
section
variable {P : Program} {w : World} {K : PySem.W.Frag} {mg : Str → Option Value} {base : Heap}
theorem w_law_node (T : Txt K mg) (c_law_draw : Cl P w K mg base 1 "_law_draw" spDraw) (c_law_one : Cl P w K mg base 2 "_law_one" spOne) (D : Dn K mg "_law_node" s_law_node) : Cl P w K mg base 3 "_law_node" spLNode := by
  refine cl_of D sc_law_node (fun vs H Q E h => ?_) (fun _ _ _ _ _ _ us hl => match us, hl with | [_, _], _ => rfl) fun f cdv A outer s H vs Q E hr h => ?_
  · obtain ⟨l, m, rfl, _⟩ := h
    rfl
  obtain ⟨l, m, rfl, wv, hm, hm2, hQ⟩ := h
  refine ⟨_, PSs.nox (pss_cons (ps_set (i := 2) sc_law_node.nd rfl (Or.inl rfl) (pe_cl c_law_draw hr (by decide) rfl (pa_cons (pv 0) (pa_cons pe_int pa_nil)))) (pss_cons (ps_if (pt_cmpR op_lt (pv 2) pe_int (nomark _)) (pss_one (ps_ret (pe_tup (pa_cons pe_str (pa_cons (pe_cl c_law_one hr (by decide) rfl (pa_cons (pv 0) (pa_cons (pe_lst (pa_cons pe_str (pa_cons pe_str (pa_cons pe_str pa_nil)))) pa_nil))) (pa_cons (pe_cl c_law_one hr (by decide) rfl (pa_cons (pv 0) (pa_cons (pe_lst (pa_cons pe_str (pa_cons pe_str (pa_cons pe_str pa_nil)))) pa_nil))) pa_nil)))))) pss_nil) (pss_cons (ps_if (pt_cmpR op_lt (pv 2) pe_int (nomark _)) (pss_cons (ps_setLc (i := 3) (own := [("_law_turn", 4)]) (g := (gName 4)) (tt := tYes) rfl sc_law_node.nd rfl rfl (sw_true rfl rfl rfl (by decide +kernel)) (pi_range1 (by rfl) T.range_ (pa_cons (pe_cl c_law_draw hr (by decide) rfl (pa_cons (pv 0) (pa_cons pe_int pa_nil))) pa_nil)) (blkOk_by (own := [("_law_turn", 4)]) (N := N_law_node) (sc := (defScope s_law_node)) (by decide +kernel)) (fun _ _ _ _ _ => (pg_name (i := 4) sc_law_node.nd rfl (Or.inl rfl))) (fun _ _ _ _ _ => pts_nil) (fun _ _ _ _ _ => (pe_cl c_law_draw hr (by decide) rfl (pa_cons (pv 0) (pa_cons (pv 1) pa_nil))))) (pss_one (ps_ret (pe_tup (pa_cons pe_str (pa_cons (pe_cl c_law_one hr (by decide) rfl (pa_cons (pv 0) (pa_cons (pe_lst (pa_cons pe_str (pa_cons pe_str (pa_cons pe_str pa_nil)))) pa_nil))) (pa_cons (pe_callTy call_tuple_of (by rfl) T.tuple_ PyProof.Rows.boot_tuple (pa_cons (pv 3) pa_nil)) pa_nil))))))) pss_nil) (pss_cons (ps_setLc (i := 3) (own := [("_law_turn", 4)]) (g := (gName 4)) (tt := tYes) rfl sc_law_node.nd rfl rfl (sw_true rfl rfl rfl (by decide +kernel)) (pi_range1 (by rfl) T.range_ (pa_cons (pe_cl c_law_draw hr (by decide) rfl (pa_cons (pv 0) (pa_cons pe_int pa_nil))) pa_nil)) (blkOk_by (own := [("_law_turn", 4)]) (N := N_law_node) (sc := (defScope s_law_node)) (by decide +kernel)) (fun _ _ _ _ _ => (pg_name (i := 4) sc_law_node.nd rfl (Or.inl rfl))) (fun _ _ _ _ _ => pts_nil) (fun _ _ _ _ _ => (pe_tup (pa_cons (pe_cl c_law_draw hr (by decide) rfl (pa_cons (pv 0) (pa_cons (pv 1) pa_nil))) (pa_cons (pe_cl c_law_draw hr (by decide) rfl (pa_cons (pv 0) (pa_cons (pv 1) pa_nil))) pa_nil))))) (pss_one (ps_ret (pe_tup (pa_cons pe_str (pa_cons (pe_cl c_law_one hr (by decide) rfl (pa_cons (pv 0) (pa_cons (pe_lst (pa_cons pe_str (pa_cons pe_str (pa_cons pe_str pa_nil)))) pa_nil))) (pa_cons (pe_callTy call_tuple_of (by rfl) T.tuple_ PyProof.Rows.boot_tuple (pa_cons (pv 3) pa_nil)) pa_nil)))))))))), ?_⟩
  refine ⟨_, rfl, l, 7, rfl, wv, by decide, by decide, fun H1 way k1 wv1 hway => ?_⟩
  refine ⟨_, rfl, _, _, rfl, rfl, _, rfl, ?_⟩
  by_cases c2 : (way : Int) < 2
  · rw [decide_eq_true c2]
    refine iteT ⟨_, rfl, (by show 3 ≤ sizeLine; decide), fun p hp => ?_⟩
    refine ⟨l, p, _, rfl, wv1.keep (keep_new hp), upd_same, wv1.ne hp, by simp, (by show 3 ≤ 100000; decide), fun H2 v k2 wv2 hv => ?_⟩
    refine ⟨_, rfl, (by show 3 ≤ sizeLine; decide), fun p2 hp2 => ?_⟩
    refine ⟨l, p2, _, rfl, wv2.keep (keep_new hp2), upd_same, wv2.ne hp2, by simp, (by show 3 ≤ 100000; decide), fun H3 v3 k3 wv3 hv3 => ?_⟩
    refine ⟨(by show 3 ≤ sizeLine; decide), fun p3 hp3 => ?_⟩
    have k : Keep [l] H (upd H3 p3 (.tup [.str "scalar", v, v3])) := (((k1.new hp).trans k2).new hp2 |>.trans k3).new hp3
    obtain ⟨t, rfl, ht⟩ : ∃ t, v = .str t ∧ Tag t := by
      simp only [List.mem_cons, List.not_mem_nil, or_false] at hv
      rcases hv with rfl | rfl | rfl
      · exact ⟨_, rfl, .inl rfl⟩
      · exact ⟨_, rfl, .inl rfl⟩
      · exact ⟨_, rfl, .inr (.inl rfl)⟩
    obtain ⟨x, rfl, hx⟩ : ∃ t : Str, v3 = .str t ∧ (t = "a" ∨ t = "b" ∨ t = "") := by
      simp only [List.mem_cons, List.not_mem_nil, or_false] at hv3
      rcases hv3 with rfl | rfl | rfl
      · exact ⟨_, rfl, .inl rfl⟩
      · exact ⟨_, rfl, .inr (.inl rfl)⟩
      · exact ⟨_, rfl, .inr (.inr rfl)⟩
    exact hQ _ _ (.sc t x) k (wv3.keep (keep_new hp3)) ⟨p3, _, rfl, upd_same, rfl⟩ ⟨trivial, ht, ⟨Nat.zero_le _, Nat.zero_le _⟩, hx⟩
  rw [decide_eq_false c2]
  refine iteF ⟨_, rfl, _, _, rfl, rfl, _, rfl, ?_⟩
  by_cases c5 : (way : Int) < 5
  · rw [decide_eq_true c5]
    refine iteT ⟨_, rfl, l, 4, rfl, wv1, by decide, by decide, fun H2 r k2 wv2 hr4 => ⟨_, rfl, by omega, by omega, fun D hD => ?_⟩⟩
    have hDl := wv2.ne hD
    have hrl : (List.replicate ((r : Int).toNat) ()).length = r := by simp
    refine lc_it walk_range (Gath H2 [l] (fun H => WellV H l) D (List.replicate ((r : Int).toNat) ()) (fun _ => some ()) (fun _ v _ => ∃ r : Nat, r < m ∧ v = nV r)) (gath0 hD (wv2.upd hDl)) (fun _ _ _ _ => trivial) ?_ ?_
    · rintro i x H3 H4 hi p ⟨rfl, rfl⟩
      refine ⟨rfl, yes_ ?_⟩
      refine ⟨_, rfl, _, rfl, l, m, rfl, p.2.1, hm, by omega, fun H5 r5 k5 wv5 hr5 => ?_⟩
      exact p.yes (gxw hDl fun _ _ _ _ _ r => r) hD (by rw [List.getElem?_replicate, if_pos hi]) (by rw [hrl]; exact small_line (by omega)) k5 wv5 rfl ⟨r5, hr5, rfl⟩
    intro H3 p
    obtain ⟨k3, wv3, ys, hy, hp⟩ := p.all (by simp)
    rw [fm_unit] at hp
    obtain ⟨rs, rfl, hrs, hrl2⟩ := units_nats hp
    rw [hrl] at hrl2
    refine ⟨_, rfl, (by show 3 ≤ sizeLine; decide), fun p2 hp2 => ?_⟩
    refine ⟨l, p2, _, rfl, wv3.keep (keep_new hp2), upd_same, wv3.ne hp2, by simp, (by show 3 ≤ 100000; decide), fun H4 v4 k4 wv4 hv => ?_⟩
    have hy4 : H4 D = some (.lst (rs.map nV)) := k4.at1 hDl ((keep_new (ex := []) hp2).at_ hy)
    refine ⟨_, rfl, D, _, rfl, .inl ⟨SqL.of hy4, fun q hq => ?_⟩⟩
    refine ⟨(by show 3 ≤ sizeLine; decide), fun p3 hp3 => ?_⟩
    have k : Keep [l] H (upd (upd H4 q (.tup (rs.map nV))) p3 (.tup [.str "sequence", v4, .ref q])) := ((((k1.trans k2).trans k3).new hp2 |>.trans k4).new hq).new hp3
    obtain ⟨t, rfl, ht⟩ : ∃ t, v4 = .str t ∧ Tag t := by
      simp only [List.mem_cons, List.not_mem_nil, or_false] at hv
      rcases hv with rfl | rfl | rfl
      · exact ⟨_, rfl, .inr (.inr (.inl rfl))⟩
      · exact ⟨_, rfl, .inr (.inr (.inl rfl))⟩
      · exact ⟨_, rfl, .inr (.inr (.inr (.inl rfl)))⟩
    exact hQ _ _ (.sq t rs) k ((wv4.keep (keep_new hq)).keep (keep_new hp3)) ⟨p3, _, rfl, upd_same, q, rfl, (keep_new (ex := []) hp3).at_ upd_same⟩ ⟨hrs, ht, ⟨(by show rs.length ≤ 3; omega), Nat.zero_le _⟩, trivial⟩
  · rw [decide_eq_false c5]
    refine iteF ⟨_, rfl, l, 3, rfl, wv1, by decide, by decide, fun H2 r k2 wv2 hr4 => ⟨_, rfl, by omega, by omega, fun D hD => ?_⟩⟩
    have hDl := wv2.ne hD
    have hrl : (List.replicate ((r : Int).toNat) ()).length = r := by simp
    refine lc_it walk_range (Gath H2 [l] (fun H => WellV H l) D (List.replicate ((r : Int).toNat) ()) (fun _ => some ()) (fun H v _ => ∃ p : Nat × Nat, PairV H v p ∧ p.1 < m ∧ p.2 < m)) (gath0 hD (wv2.upd hDl)) (fun _ _ _ _ => trivial) ?_ ?_
    · rintro i x H3 H4 hi p ⟨rfl, rfl⟩
      refine ⟨rfl, yes_ ?_⟩
      refine ⟨_, rfl, _, rfl, l, m, rfl, p.2.1, hm, by omega, fun H5 r5 k5 wv5 hr5 => ?_⟩
      refine ⟨_, rfl, _, rfl, l, m, rfl, wv5, hm, by omega, fun H6 r6 k6 wv6 hr6 => ?_⟩
      refine ⟨(by show 2 ≤ sizeLine; decide), fun tp htp => ?_⟩
      exact p.yes (gxw hDl fun _ _ _ _ e ⟨p, h1, h2⟩ => ⟨p, h1.ext e, h2⟩) hD (by rw [List.getElem?_replicate, if_pos hi]) (by rw [hrl]; exact small_line (by omega)) ((k5.trans k6).new htp) (wv6.keep (keep_new htp)) rfl ⟨(r5, r6), ⟨tp, rfl, upd_same⟩, hr5, hr6⟩
    intro H3 p
    obtain ⟨k3, wv3, ys, hy, hp⟩ := p.all (by simp)
    rw [fm_unit] at hp
    obtain ⟨es, hpe, hes, hrl2⟩ := units_of (R := fun H v (p : Nat × Nat) => PairV H v p) hp
    rw [hrl] at hrl2
    refine ⟨_, rfl, (by show 3 ≤ sizeLine; decide), fun p2 hp2 => ?_⟩
    refine ⟨l, p2, _, rfl, wv3.keep (keep_new hp2), upd_same, wv3.ne hp2, by simp, (by show 3 ≤ 100000; decide), fun H4 v4 k4 wv4 hv => ?_⟩
    have hy4 : H4 D = some (.lst ys) := k4.at1 hDl ((keep_new (ex := []) hp2).at_ hy)
    have e4 : Ext H3 H4 := (ext_new hp2).trans ((wv3.keep (keep_new hp2)).ext k4)
    refine ⟨_, rfl, D, _, rfl, .inl ⟨SqL.of hy4, fun q hq => ?_⟩⟩
    refine ⟨(by show 3 ≤ sizeLine; decide), fun p3 hp3 => ?_⟩
    have k : Keep [l] H (upd (upd H4 q (.tup ys)) p3 (.tup [.str "mapping", v4, .ref q])) := ((((k1.trans k2).trans k3).new hp2 |>.trans k4).new hq).new hp3
    obtain ⟨t, rfl, ht⟩ : ∃ t, v4 = .str t ∧ Tag t := by
      simp only [List.mem_cons, List.not_mem_nil, or_false] at hv
      rcases hv with rfl | rfl | rfl
      · exact ⟨_, rfl, .inr (.inr (.inr (.inr (.inl rfl))))⟩
      · exact ⟨_, rfl, .inr (.inr (.inr (.inr (.inl rfl))))⟩
      · exact ⟨_, rfl, .inr (.inr (.inr (.inr (.inr rfl))))⟩
    exact hQ _ _ (.mp t es) k ((wv4.keep (keep_new hq)).keep (keep_new hp3)) ⟨p3, _, rfl, upd_same, q, ys, rfl, (keep_new (ex := []) hp3).at_ upd_same, pairs_ext ((e4.trans (ext_new hq)).trans (ext_new hp3)) hpe⟩ ⟨hes, ht, ⟨(by show es.length ≤ 3; omega), (by show es.length ≤ 2; omega)⟩, trivial⟩
theorem nodes_dp {H : Hp} {a : Addr} {us : List V} {ns : List Nd} (h : SqL K H a us) (p : Paired (NdV H) us ns) : Dp K H (.ref a) (.list (dkAll (ns.map nodeKey))) := .lst h (dpAll_of (fun _ _ q => nodeKey_of q) p)
theorem nodes_shaped {ns : List Nd} {m : Nat} (h : ∀ n ∈ ns, Nf m n) : SeqAt.shaped (.list (dkAll (ns.map nodeKey))) = true := shaped_keys fun k hk => by
  obtain ⟨n, hn, rfl⟩ := List.mem_map.mp hk
  exact node_lay (h n hn).2.1 (h n hn).2.2.2
theorem w_law_nodes (T : Txt K mg) (c_law_draw : Cl P w K mg base 1 "_law_draw" spDraw) (c_law_one : Cl P w K mg base 2 "_law_one" spOne) (c_law_node : Cl P w K mg base 3 "_law_node" spLNode) (D : Dn K mg "_law_nodes" s_law_nodes) : Cl P w K mg base 4 "_law_nodes" spLNodes := by
  refine cl_of D sc_law_nodes (fun vs H Q E h => ?_) (fun _ _ _ _ _ _ us hl => match us, hl with | [_, _], _ => rfl) fun f cdv A outer s H vs Q E hr h => ?_
  · obtain ⟨l, m, rfl, _⟩ := h
    rfl
  obtain ⟨l, m, rfl, wv, hm, hm2, hQ⟩ := h
  refine ⟨_, PSs.nox (pss_cons (ps_set (i := 2) sc_law_nodes.nd rfl (Or.inl rfl) (pe_lst pa_nil)) (pss_cons (ps_for PassesOwn.never rfl (pi_range1 (by rfl) T.range_ (pa_cons (pv 1) pa_nil)) (pg_name (i := 3) sc_law_nodes.nd rfl (Or.inl rfl)) (pss_cons (ps_set (i := 4) sc_law_nodes.nd rfl (Or.inl rfl) (pe_and (pe_cmpR (op_neD hr.units) (pv 2) (pe_lst pa_nil) (nomark _)) (pe_one (pe_cmpR op_eq (pe_cl c_law_draw hr (by decide) rfl (pa_cons (pv 0) (pa_cons pe_int pa_nil))) pe_int (nomark _))))) (pss_one (ps_expr (pe_bm PySem.F.plainAttrs_list PySem.F.slot_list_append PySem.F.type_list_append mt_append (pv 2) (pa_cons (pe_ifExp (pt_val (pv 4)) (pe_cl c_law_one hr (by decide) rfl (pa_cons (pv 0) (pa_cons (pv 2) pa_nil))) (pe_cl c_law_node hr (by decide) rfl (pa_cons (pv 0) (pa_cons (pv 1) pa_nil)))) pa_nil)))))) (pss_one (ps_ret (pv 2))))), ?_⟩
  refine ⟨(by show 0 ≤ sizeLine; decide), fun F hF => ?_⟩
  have hFl := wv.ne hF
  refine ⟨_, rfl, _, rfl, by omega, by omega, ?_⟩
  refine for_it walk_range (fun i σ H2 => Keep [l] H H2 ∧ WellV H2 l ∧ (∃ us ns, H2 F = some (.lst us) ∧ Paired (NdV H2) us ns ∧ ns.length = i ∧ ∀ n ∈ ns, Nf m n) ∧ ∃ u1 u2, σ = [some (.ref l), some (nV m), some (.ref F), u1, u2])
    ⟨keep_new hF, wv.upd hFl, ⟨[], [], upd_same, .nil, rfl, fun n h => by simp at h⟩, _, _, rfl⟩ (fun _ _ _ _ _ => trivial) ?_ ?_
  · rintro i x σ H2 H3 hi ⟨k2, wv2, ⟨us, ns, hus, hp, hl, hok⟩, u1, u2, rfl⟩ ⟨rfl, rfl⟩
    have hi' : i < m := by omega
    refine ⟨_, rfl, (by show 0 ≤ sizeLine; decide), fun e0 he0 => ?_⟩
    have ke : Keep [] H3 (upd H3 e0 (.lst [])) := keep_new he0
    refine ⟨_, _, nodes_dp (SqL.of (ke.at_ hus)) (nds_ext ke.ext0 hp), nodes_dp (ns := []) (SqL.of upd_same) .nil, nodes_shaped hok, shaped_keys (ks := []) (fun k h => by simp at h), _, rfl, ?_⟩
    rw [list_eqv]
    have fin : ∀ (b : Bool) (H4 : Hp), Keep [l] H H4 → WellV H4 l → H4 F = some (.lst us) → Paired (NdV H4) us ns → (b = true → ns ≠ []) →
        tBM K "list" rAppend (tVar 2) (tCons (tIf (tB (tVar 4)) (tCl spOne (tCons (tVar 0) (tCons (tVar 2) tNil))) (tCl spLNode (tCons (tVar 0) (tCons (tVar 1) tNil)))) tNil) [some (.ref l), some (nV m), some (.ref F), some (.int (0 + (i : Nat))), some (.bl b)] H4 fun _ H5 =>
          Keep [l] H H5 ∧ WellV H5 l ∧ (∃ us ns, H5 F = some (.lst us) ∧ Paired (NdV H5) us ns ∧ ns.length = i + 1 ∧ ∀ n ∈ ns, Nf m n) ∧ ∃ u1 u2, [some (V.ref l), some (nV m), some (.ref F), some (.int (0 + (i : Nat))), some (.bl b)] = [some (.ref l), some (nV m), some (.ref F), u1, u2] := by
      intro b H4 k4 wv4 hF4 hp4 hb
      have ul := paired_len hp4
      have app : ∀ (H5 : Hp) (v : V) (n : Nd), Keep [l] H4 H5 → WellV H5 l → NdV H5 v n → Nf m n → rAppend (.ref F) [v] H5 fun _ H5 =>
          Keep [l] H H5 ∧ WellV H5 l ∧ (∃ us ns, H5 F = some (.lst us) ∧ Paired (NdV H5) us ns ∧ ns.length = i + 1 ∧ ∀ n ∈ ns, Nf m n) ∧ ∃ u1 u2, [some (V.ref l), some (nV m), some (.ref F), some (.int (0 + (i : Nat))), some (.bl b)] = [some (.ref l), some (nV m), some (.ref F), u1, u2] := by
        intro H5 v n k5 wv5 hv hn
        have hF5 := k5.at1 hFl hF4
        have e5 : Ext H4 H5 := wv4.ext k5
        have e6 : Ext H5 (upd H5 F (.lst (us ++ [v]))) := ext_updl hF5 (by intro xs z; cases z)
        refine ⟨F, us, v, rfl, rfl, hF5, small_line (by omega), (k4.trans k5).upd0 hF, wv5.upd hFl, ⟨_, ns ++ [n], upd_same, paired_app (hv.ext e6) (nds_ext e6 (nds_ext e5 hp4)), by rw [List.length_append, hl]; rfl, fun x hx => ?_⟩, _, _, rfl⟩
        rcases List.mem_append.mp hx with hx | hx
        · exact hok x hx
        · rw [List.mem_singleton.mp hx]; exact hn
      refine ⟨_, rfl, .inl ⟨rfl, _, SqL.of hF4⟩, ?_⟩
      refine ⟨_, rfl, _, rfl, ?_⟩
      cases b with
      | true =>
        have hne : us ≠ [] := fun z => by
          have h1 := hb rfl
          rw [z] at ul
          exact h1 (List.eq_nil_of_length_eq_zero ul.symm)
        refine iteT ⟨_, rfl, _, rfl, l, F, us, rfl, wv4, hF4, hFl, hne, by omega, fun H5 v k5 wv5 hv => ?_⟩
        obtain ⟨j, hj⟩ := List.mem_iff_getElem?.mp hv
        obtain ⟨n, hn, hnv⟩ := paired_get hp4 hj
        exact app H5 v n k5 wv5 (hnv.ext (wv4.ext k5)) (hok n (List.mem_of_getElem? hn))
      | false =>
        refine iteF ⟨_, rfl, _, rfl, l, m, rfl, wv4, hm, hm2, fun H5 v n k5 wv5 hv hn => ?_⟩
        exact app H5 v n k5 wv5 hv hn
    have k3 := k2.new (o := .lst []) he0
    by_cases e : ns.map nodeKey = ([] : List Nd).map nodeKey
    · rw [decide_eq_true e]
      exact iteF (fin false _ k3 (wv2.keep ke) (ke.at_ hus) (nds_ext ke.ext0 hp) (fun z => by cases z))
    · rw [decide_eq_false e]
      refine iteT ⟨_, rfl, l, 4, rfl, wv2.keep ke, by decide, by decide, fun H4 r k4 wv4 hr4 => ⟨rfl, ?_⟩⟩
      refine fin _ _ (k3.trans k4) wv4 (k4.at1 hFl (ke.at_ hus)) (nds_ext ((wv2.keep ke).ext k4) (nds_ext ke.ext0 hp)) fun _ z => e (by rw [z])
  · rintro σ H2 ⟨k2, wv2, ⟨us, ns, hus, hp, hl, hok⟩, u1, u2, rfl⟩
    exact ⟨_, rfl, hQ _ F us ns k2 wv2 hF hus hp (by omega) hok⟩
end
end Ap
set_option Elab.async false
set_option linter.all false
set_option maxRecDepth 100000
set_option maxHeartbeats 4000000
namespace Ap
open PySem PySem.Spec PyProof.Rows L2
abbrev N_law_like : List Str := ["_law_well_here", "_law_nodes_here", "_law_size", "_law_found", "_law_turn", "_law_node_here", "_law_names", "_law_kind", "_law_tag", "_law_content", "_law_number", "_law_one_here", "_law_pair"]
theorem sc_law_like : FnScope N_law_like ["_law_well_here", "_law_nodes_here"] (defScope s_law_like) := ⟨rfl, rfl, rfl, by decide +kernel, rfl, by decide +kernel, by decide +kernel⟩

/-- a node of the other graph -/
def Ng (m : Nat) (n : Nd) : Prop := n.below m ∧ Tag n.tag ∧ n.len ≤ 4 ∧ TxtOk n
theorem Nf.ng {m : Nat} {n : Nd} (h : Nf m n) : Ng m n := ⟨h.1, h.2.1, Nat.le_succ_of_le h.2.2.1.1, h.2.2.2⟩
def spLike : Sp := fun vs H Q _ => ∃ (l a : Addr) (us : List V) (ns : List Nd) (m : Nat), vs = [.ref l, .ref a] ∧ WellV H l ∧ a ≠ l ∧ H a = some (.lst us) ∧ Paired (NdV H) us ns ∧ ns.length = m ∧ 0 < m ∧ m ≤ 40 ∧ (∀ n ∈ ns, Nf m n) ∧
  ∀ H' p us' ns', Keep [l] H H' → WellV H' l → H p = none → H' p = some (.lst us') → Paired (NdV H') us' ns' → ns'.length = 2 * m → (∀ n ∈ ns', Ng (2 * m) n) → Q (.ref p) H'
/-- the dict tells of each number below m one below b -/
def NamesOk (m b : Nat) (kvs : List (Key × V)) : Prop := ∀ k : Nat, k < m → ∃ r : Nat, r < b ∧ valV kvs (Sum.inl (k : Int)) = some (nV r)
theorem merge_ok {C : V → Prop} : ∀ (more acc : List (Key × V)), (∀ kv ∈ more, C kv.2) → (∀ j v, valV acc j = some v → C v) →
    (∀ j v, valV (mergeK acc more) j = some v → C v) ∧ ∀ j, (j ∈ more.map (·.1) ∨ (valV acc j).isSome = true) → (valV (mergeK acc more) j).isSome = true
  | [], acc, _, h2 => ⟨h2, fun j h => by
      rcases h with h | h
      · simp at h
      · exact h⟩
  | kv :: more, acc, h1, h2 => by
    have e : mergeK acc (kv :: more) = mergeK (putK acc kv.1 kv.2) more := rfl
    obtain ⟨i1, i2⟩ := merge_ok more (putK acc kv.1 kv.2) (fun x hx => h1 x (List.mem_cons_of_mem _ hx)) fun j v hv => by
      rw [valV_put] at hv
      split at hv
      · rw [← Option.some.inj hv]; exact h1 kv (List.mem_cons_self ..)
      · exact h2 j v hv
    rw [e]
    refine ⟨i1, fun j hj => i2 j ?_⟩
    rw [valV_put]
    rcases hj with hj | hj
    · rw [List.map_cons] at hj
      rcases List.mem_cons.mp hj with rfl | hj
      · right; simp
      · exact .inl hj
    · right
      split
      · rfl
      · exact hj
theorem names_ok {m b : Nat} {kvs : List (Key × V)} (h1 : ∀ k : Nat, k < m → Sum.inl (k : Int) ∈ kvs.map (·.1)) (h2 : ∀ kv ∈ kvs, ∃ r : Nat, r < b ∧ kv.2 = nV r) : NamesOk m b (mergeK [] kvs) := by
  obtain ⟨i1, i2⟩ := merge_ok (C := fun v => ∃ r : Nat, r < b ∧ v = nV r) kvs [] h2 (fun j v h => by cases h)
  intro k hk
  have := i2 (Sum.inl (k : Int)) (.inl (h1 k hk))
  cases e : valV (mergeK [] kvs) (Sum.inl (k : Int)) with
  | none => rw [e] at this; cases this
  | some v =>
    obtain ⟨r, hr, rfl⟩ := i1 _ _ e
    exact ⟨r, hr, rfl⟩
/-- an entry as the comprehension makes it -/
def EntN (b : Nat) (H : Hp) (v : V) (k : Nat) : Prop := ∃ (t : Addr) (r : Nat), v = .ref t ∧ H t = some (.tup [nV k, nV r]) ∧ r < b
theorem ents_of {K : PySem.W.Frag} {b : Nat} {H : Hp} : ∀ {ys : List V} {ks : List Nat}, Paired (EntN b H) ys ks → ∃ (ps : List Addr) (kvs : List (Key × V)), ys = ps.map V.ref ∧ Paired (fun p (kv : Key × V) => SqT K H p [kV kv.1, kv.2]) ps kvs ∧ kvs.map (·.1) = ks.map (fun k : Nat => Sum.inl (k : Int)) ∧ ∀ kv ∈ kvs, ∃ r : Nat, r < b ∧ kv.2 = nV r
  | _, _, .nil => ⟨[], [], rfl, .nil, rfl, fun kv h => by simp at h⟩
  | _, _, .cons ⟨t, r, h1, h2, h3⟩ q => by
    obtain ⟨ps, kvs, e1, e2, e3, e4⟩ := ents_of (K := K) q
    refine ⟨t :: ps, (Sum.inl _, nV r) :: kvs, by rw [h1, e1]; rfl, .cons (SqT.of h2) e2, by rw [List.map_cons, List.map_cons, e3], fun kv hkv => ?_⟩
    rcases List.mem_cons.mp hkv with rfl | hkv
    · exact ⟨r, h3, rfl⟩
    · exact e4 kv hkv
theorem ixn {n j : Nat} (hj : j < n) : ixN n (j : Int) = some j := by
  unfold ixN
  rw [if_pos (by omega), if_pos (by omega)]
  rfl
theorem paired_set {α β : Type} {F : α → β → Prop} {x : α} {y : β} (h : F x y) : ∀ {xs : List α} {ys : List β} (i : Nat), Paired F xs ys → Paired F (xs.set i x) (ys.set i y)
  | _, _, _, .nil => .nil
  | _, _, 0, .cons _ t => .cons h t
  | _, _, i + 1, .cons q t => .cons q (paired_set h i t)
theorem paired_drop {α β : Type} {F : α → β → Prop} : ∀ {xs : List α} {ys : List β} (i : Nat), Paired F xs ys → Paired F (xs.drop i) (ys.drop i)
  | _, _, 0, h => h
  | _, _, _ + 1, .nil => .nil
  | _, _, i + 1, .cons _ t => paired_drop i t
theorem paired_take {α β : Type} {F : α → β → Prop} : ∀ {xs : List α} {ys : List β} (i : Nat), Paired F xs ys → Paired F (xs.take i) (ys.take i)
  | _, _, 0, _ => .nil
  | _, _, _ + 1, .nil => .nil
  | _, _, i + 1, .cons q t => .cons q (paired_take i t)
section
variable {P : Program} {w : World} {K : PySem.W.Frag} {mg : Str → Option Value} {base : Heap}
theorem w_law_like (T : Txt K mg) (c_law_draw : Cl P w K mg base 1 "_law_draw" spDraw) (c_law_node : Cl P w K mg base 3 "_law_node" spLNode) (D : Dn K mg "_law_like" s_law_like) : Cl P w K mg base 4 "_law_like" spLike := by
  refine cl_of D sc_law_like (fun vs H Q E h => ?_) (fun _ _ _ _ _ _ us hl => match us, hl with | [_, _], _ => rfl) fun f cdv A outer s H vs Q E hr h => ?_
  · obtain ⟨l, a, us, ns, m, rfl, _⟩ := h
    rfl
  obtain ⟨l, a, us, ns, m, rfl, wv, hal, ha, hp, hnl, hm, hm2, hok, hQ⟩ := h
  have hu := hu_of hr
  have ul : us.length = ns.length := paired_len hp
  refine ⟨_, PSs.nox (pss_cons (ps_asg (pe_tup (pa_cons (pe_callB call_len (by rfl) T.len_ PySem.boot_len (pa_cons (pv 1) pa_nil)) (pa_cons (pe_lst pa_nil) pa_nil))) (pg_tup (by rfl) (pgs_cons (pg_name (i := 2) sc_law_like.nd rfl (Or.inr rfl)) (pgs_cons (pg_name (i := 3) sc_law_like.nd rfl (Or.inl rfl)) pgs_nil)))) (pss_cons (ps_for PassesOwn.never rfl (pi_range1 (by rfl) T.range_ (pa_cons pe_int pa_nil)) (pg_name (i := 4) sc_law_like.nd rfl (Or.inl rfl)) (pss_one (ps_for PassesOwn.never rfl (pi_list (pv 1)) (pg_name (i := 5) sc_law_like.nd rfl (Or.inl rfl)) (pss_cons (ps_set (i := 6) sc_law_like.nd rfl (Or.inr rfl) (pe_callTy (call_dictP rfl) (by rfl) T.dict_ PyProof.Rows.boot_dict (pa_cons (pe_lc (own := [("_law_number", 10)]) (g := (gName 10)) (tt := tYes) rfl sc_law_like.nd (pi_range1 (by rfl) T.range_ (pa_cons (pv 2) pa_nil)) (blkOk_by (own := [("_law_number", 10)]) (N := N_law_like) (sc := (defScope s_law_like)) (by decide +kernel)) (fun _ _ _ _ _ => (pg_name (i := 10) sc_law_like.nd rfl (Or.inl rfl))) (fun _ _ _ _ _ => pts_nil) (fun _ _ _ _ _ => (pe_tup (pa_cons (pv 10) (pa_cons (pe_op op_add (pv 10) (pe_op op_mul (pv 2) (pe_cl c_law_draw hr (by decide) rfl (pa_cons (pv 0) (pa_cons pe_int pa_nil))))) pa_nil))))) pa_nil))) (pss_cons (ps_asg (pv 5) (pg_tup (by rfl) (pgs_cons (pg_name (i := 7) sc_law_like.nd rfl (Or.inl rfl)) (pgs_cons (pg_name (i := 8) sc_law_like.nd rfl (Or.inl rfl)) (pgs_cons (pg_name (i := 9) sc_law_like.nd rfl (Or.inl rfl)) pgs_nil))))) (pss_cons (ps_if (pt_cmpR op_eq (pv 7) pe_str (nomark _)) (pss_one (ps_set (i := 9) sc_law_like.nd rfl (Or.inl rfl) (pe_callTy call_tuple_of (by rfl) T.tuple_ PyProof.Rows.boot_tuple (pa_cons (pe_lc (own := [("_law_one_here", 11)]) (g := (gName 11)) (tt := tYes) rfl sc_law_like.nd (pi_tup (pv 9)) (blkOk_by (own := [("_law_one_here", 11)]) (N := N_law_like) (sc := (defScope s_law_like)) (by decide +kernel)) (fun _ _ _ _ _ => (pg_name (i := 11) sc_law_like.nd rfl (Or.inl rfl))) (fun _ _ _ _ _ => pts_nil) (fun _ _ _ _ _ => (pe_dget hu (pv 6) (pv 11) (fun _ _ => rfl)))) pa_nil)))) pss_nil) (pss_cons (ps_if (pt_cmpR op_eq (pv 7) pe_str (nomark _)) (pss_cons (ps_set (i := 9) sc_law_like.nd rfl (Or.inl rfl) (pe_callTy call_tuple_of (by rfl) T.tuple_ PyProof.Rows.boot_tuple (pa_cons (pe_lc (own := [("_law_pair", 12)]) (g := (gName 12)) (tt := tYes) rfl sc_law_like.nd (pi_tup (pv 9)) (blkOk_by (own := [("_law_pair", 12)]) (N := N_law_like) (sc := (defScope s_law_like)) (by decide +kernel)) (fun _ _ _ _ _ => (pg_name (i := 12) sc_law_like.nd rfl (Or.inl rfl))) (fun _ _ _ _ _ => pts_nil) (fun _ _ _ _ _ => (pe_tup (pa_cons (pe_dget hu (pv 6) (pe_ix (kIxT (K := K) rfl) (pv 12) pe_int (fun _ _ => rfl)) (fun _ _ => rfl)) (pa_cons (pe_dget hu (pv 6) (pe_ix (kIxT (K := K) rfl) (pv 12) pe_int (fun _ _ => rfl)) (fun _ _ => rfl)) pa_nil))))) pa_nil))) (pss_one (ps_set (i := 9) sc_law_like.nd rfl (Or.inl rfl) (pe_op op_catA (pv 9) (pe_slice sl_tupA (pv 9) po_none (po_some (pe_cl c_law_draw hr (by decide) rfl (pa_cons (pv 0) (pa_cons pe_int pa_nil))))))))) pss_nil) (pss_one (ps_expr (pe_bm PySem.F.plainAttrs_list PySem.F.slot_list_append PySem.F.type_list_append mt_append (pv 3) (pa_cons (pe_tup (pa_cons (pv 7) (pa_cons (pv 8) (pa_cons (pv 9) pa_nil)))) pa_nil))))))))))) (pss_cons (ps_if (pt_cmpR op_eq (pe_cl c_law_draw hr (by decide) rfl (pa_cons (pv 0) (pa_cons pe_int pa_nil))) pe_int (nomark _)) (pss_one (ps_asg (pe_cl c_law_node hr (by decide) rfl (pa_cons (pv 0) (pa_cons (pe_callB call_len (by rfl) T.len_ PySem.boot_len (pa_cons (pv 3) pa_nil)) pa_nil))) (pg_sub (pv 3) (pe_cl c_law_draw hr (by decide) rfl (pa_cons (pv 0) (pa_cons (pe_callB call_len (by rfl) T.len_ PySem.boot_len (pa_cons (pv 3) pa_nil)) pa_nil))) set_list))) pss_nil) (pss_one (ps_ret (pv 3)))))), ?_⟩
  refine ⟨_, rfl, _, us.length, rfl, .inl ⟨_, SqL.of ha, rfl⟩, (by show 0 ≤ sizeLine; decide), fun F hF => ?_⟩
  refine ⟨(by show 2 ≤ sizeLine; decide), fun tp htp => ?_⟩
  refine ⟨tp, _, rfl, SqT.of upd_same, rfl, _, _, rfl, _, _, rfl, rfl, ?_⟩
  subst hnl
  have hFl := wv.ne hF
  have k0 : Keep [l] H (upd H F (.lst [])) := keep_new hF
  have k1 : Keep [l] H (upd (upd H F (.lst [])) tp (.tup [.int us.length, .ref F])) := k0.new htp
  have wv1 : WellV (upd (upd H F (.lst [])) tp (.tup [.int us.length, .ref F])) l := (wv.keep (keep_new hF)).keep (keep_new htp)
  have hF1 : upd (upd H F (.lst [])) tp (.tup [.int us.length, .ref F]) F = some (.lst []) := (keep_new (ex := []) htp).at_ upd_same
  generalize upd (upd H F (.lst [])) tp (.tup [.int us.length, .ref F]) = H1 at *
  refine ⟨_, rfl, by decide, by decide, ?_⟩
  refine for_it walk_range (fun i σ H2 => Keep [l] H H2 ∧ WellV H2 l ∧ (∃ us' ns', H2 F = some (.lst us') ∧ Paired (NdV H2) us' ns' ∧ ns'.length = i * ns.length ∧ ∀ n ∈ ns', Ng (2 * ns.length) n) ∧
      ∃ u4 u5 u6 u7 u8 u9, σ = [some (.ref l), some (.ref a), some (nV us.length), some (.ref F), u4, u5, u6, u7, u8, u9, none, none, none])
    ⟨k1, wv1, ⟨[], [], hF1, .nil, by simp, fun n h => by simp at h⟩, _, _, _, _, _, _, rfl⟩ (fun _ _ _ _ _ => trivial) ?_ ?_
  · rintro i x σ H2 H3 hi ⟨k2, wv2, ⟨us2, ns2, hus2, hp2, hl2, hok2⟩, u4, u5, u6, u7, u8, u9, rfl⟩ ⟨rfl, rfl⟩
    have hi2 : i < 2 := by omega
    refine ⟨_, rfl, a, rfl, ⟨_, SqL.of (k2.at1 hal ha)⟩, ?_⟩
    refine for_it (walk_list (xs := us)) (fun j σ H2 => Keep [l] H H2 ∧ WellV H2 l ∧ (∃ us' ns', H2 F = some (.lst us') ∧ Paired (NdV H2) us' ns' ∧ ns'.length = i * ns.length + j ∧ ∀ n ∈ ns', Ng (2 * ns.length) n) ∧
      ∃ u4 u5 u6 u7 u8 u9, σ = [some (.ref l), some (.ref a), some (nV us.length), some (.ref F), u4, u5, u6, u7, u8, u9, none, none, none])
      ⟨k2, wv2, ⟨us2, ns2, hus2, hp2, by omega, hok2⟩, _, _, _, _, _, _, rfl⟩ (fun _ _ _ _ z => SqL.of (z.1.at1 hal ha)) ?_ ?_
    · rintro j x σ H4 H5 hj ⟨k4, wv4, ⟨us4, ns4, hus4, hp4, hl4, hok4⟩, v4, v5, v6, v7, v8, v9, rfl⟩ ⟨rfl, ex⟩
      obtain ⟨nd, hnd, hv⟩ := paired_get hp ex
      have hnf := hok nd (List.mem_of_getElem? hnd)
      have hv4 := hv.ext (wv.ext k4)
      refine ⟨_, rfl, _, rfl, by omega, by omega, fun D hD => ?_⟩
      have hDl := wv4.ne hD
      have hrl : (List.range ((us.length : Int).toNat)).length = us.length := by simp
      refine lc_it walk_range (Gath H5 [l] (fun H => WellV H l) D (List.range ((us.length : Int).toNat)) (fun k => some k) (EntN (2 * ns.length))) (gath0 hD (wv4.upd hDl)) (fun _ _ _ _ => trivial) ?_ ?_
      · rintro k x H6 H7 hk p ⟨rfl, rfl⟩
        have hk' : k < us.length := by omega
        refine ⟨rfl, yes_ ?_⟩
        refine ⟨_, rfl, _, rfl, _, rfl, _, rfl, l, 2, rfl, p.2.1, by decide, by decide, fun H8 r k8 wv8 hr => ⟨_, _, rfl, rfl, .inl ⟨by omega, by omega⟩, _, _, rfl, rfl, (by show 2 ≤ sizeLine; decide), fun t ht => ?_⟩⟩
        have hrr : us.length * r ≤ us.length := by
          have h1 : us.length * r ≤ us.length * 1 := Nat.mul_le_mul_left _ (by omega)
          omega
        refine p.yes (gxw hDl fun _ _ _ _ e ⟨t, r, h1, h2, h3⟩ => ⟨t, r, h1, e _ _ h2, h3⟩) hD (by rw [List.getElem?_range hk]) (by rw [hrl]; exact small_line (by omega)) (k8.new ht) (wv8.keep (keep_new ht)) rfl ⟨t, k + us.length * r, rfl, ?_, by omega⟩
        rw [upd_same]
        congr 3
        · show V.int (0 + (k : Int)) = nV k
          rw [Int.zero_add]
        · show [V.int (0 + (k : Int) + (us.length : Int) * (r : Int))] = [nV (k + us.length * r)]
          congr 2
          push_cast
          omega
      intro H6 p
      obtain ⟨k6, wv6, ys, hy, hq⟩ := p.all (by simp)
      rw [show (fun k : Nat => some k) = some from rfl, List.filterMap_some] at hq
      obtain ⟨ps, kvs, rfl, hpk, hks, hvs⟩ := ents_of (K := K) hq
      have hnames : NamesOk ns.length (2 * ns.length) (mergeK [] kvs) := names_ok (fun k hk => by rw [hks]; exact List.mem_map.mpr ⟨k, List.mem_range.mpr (by omega), rfl⟩) hvs
      refine ⟨D, ps, kvs, rfl, SqL.of hy, hpk, fun Nm hNm => ?_⟩
      have kN : Keep [] H6 (upd H6 Nm (.dK (mergeK [] kvs))) := keep_new hNm
      have k7 := (k4.trans k6).new (o := .dK (mergeK [] kvs)) hNm
      have wv7 := wv6.keep kN
      have e57 : Ext H5 (upd H6 Nm (.dK (mergeK [] kvs))) := (wv4.ext k6).trans kN.ext0
      have hN7 : upd H6 Nm (.dK (mergeK [] kvs)) Nm = some (.dK (mergeK [] kvs)) := upd_same
      have hF7 : upd H6 Nm (.dK (mergeK [] kvs)) F = some (.lst us4) := kN.at_ (k6.at1 hFl hus4)
      have hNl : Nm ≠ l := wv6.ne hNm
      have hp7 := nds_ext e57 hp4
      have hv7 := hv4.ext e57
      generalize upd H6 Nm (.dK (mergeK [] kvs)) = H7 at *
      obtain ⟨an, ct, rfl, han, hct⟩ := hv7
      refine ⟨_, rfl, an, _, rfl, SqT.of han, rfl, _, _, rfl, _, _, rfl, _, _, rfl, rfl, ?_⟩
      have app : ∀ (H8 : Hp) (c8 : V) (n8 : Nd), Keep [l] H7 H8 → WellV H8 l → n8.kind = nd.kind → n8.tag = nd.tag → Cont H8 c8 n8 → Ng (2 * ns.length) n8 →
          tBM K "list" rAppend (tVar 3) (tCons (tTup (tCons (tVar 7) (tCons (tVar 8) (tCons (tVar 9) tNil)))) tNil) [some (.ref l), some (.ref a), some (nV us.length), some (.ref F), v4, some (.ref an), some (.ref Nm), some (.str nd.kind), some (.str nd.tag), some c8, none, none, none] H8 fun _ H9 =>
            Keep [l] H H9 ∧ WellV H9 l ∧ (∃ us' ns', H9 F = some (.lst us') ∧ Paired (NdV H9) us' ns' ∧ ns'.length = i * ns.length + (j + 1) ∧ ∀ n ∈ ns', Ng (2 * ns.length) n) ∧
              ∃ u4 u5 u6 u7 u8 u9, [some (V.ref l), some (.ref a), some (nV us.length), some (.ref F), v4, some (.ref an), some (.ref Nm), some (.str nd.kind), some (.str nd.tag), some c8, none, none, none] = [some (.ref l), some (.ref a), some (nV us.length), some (.ref F), u4, u5, u6, u7, u8, u9, none, none, none] := by
        intro H8 c8 n8 k8 wv8 hkd htg hc8 hng
        have hF8 := k8.at1 hFl hF7
        have ul4 := paired_len hp4
        have hil : i * ns.length ≤ 1 * ns.length := Nat.mul_le_mul_right _ (by omega)
        refine ⟨_, rfl, .inl ⟨rfl, _, SqL.of hF8⟩, _, rfl, _, rfl, _, rfl, (by show 3 ≤ sizeLine; decide), fun t ht => ?_⟩
        have kt : Keep [] H8 (upd H8 t (.tup [.str nd.kind, .str nd.tag, c8])) := keep_new ht
        have hF9 := kt.at_ hF8
        have e9 : Ext (upd H8 t (.tup [.str nd.kind, .str nd.tag, c8])) (upd (upd H8 t (.tup [.str nd.kind, .str nd.tag, c8])) F (.lst (us4 ++ [.ref t]))) := ext_updl hF9 (by intro xs z; cases z)
        refine ⟨F, us4, _, rfl, rfl, hF9, small_line (by omega), ((k7.trans k8).new ht).upd0 hF, (wv8.keep kt).upd hFl, ⟨_, ns4 ++ [n8], upd_same, paired_app ?_ (nds_ext ((((wv7.ext k8)).trans kt.ext0).trans e9) hp7), by rw [List.length_append, hl4]; rfl, fun n hn => ?_⟩, _, _, _, _, _, _, rfl⟩
        · exact NdV.ext e9 ⟨t, c8, rfl, by rw [upd_same, hkd, htg], hc8.ext kt.ext0⟩
        · rcases List.mem_append.mp hn with hn | hn
          · exact hok4 n hn
          · rw [List.mem_singleton.mp hn]; exact hng
      have look : ∀ {H8 : Hp}, Keep [l] H7 H8 → ∀ k : Nat, k < ns.length → ∃ r : Nat, r < 2 * ns.length ∧ DGet H8 Nm (nV k) (some (nV r)) := fun k8 k hk => by
        obtain ⟨r, hr, e⟩ := hnames k hk
        refine ⟨r, hr, ?_⟩
        rw [← e]
        exact DGet.k (k := Sum.inl (k : Int)) (k8.at1 hNl hN7)
      cases nd with
      | sc t x =>
        refine ⟨_, rfl, rfl, _, rfl, iteF ?_⟩
        refine ⟨_, rfl, rfl, _, rfl, iteF ?_⟩
        exact app _ ct (.sc t x) (Keep.refl _ _) wv7 rfl rfl hct ⟨trivial, hnf.2.1, Nat.zero_le _, hnf.2.2.2⟩
      | sq t xs =>
        obtain ⟨q, rfl, hx⟩ := hct
        refine ⟨_, rfl, rfl, _, rfl, iteT ?_⟩
        refine ⟨_, rfl, q, rfl, ⟨_, SqT.of hx⟩, fun D2 hD2 => ?_⟩
        refine lc_it (walk_tup (xs := xs.map nV)) (Gath H7 [] J0 D2 (List.replicate xs.length ()) (fun _ => some ()) (fun _ v _ => ∃ r : Nat, r < 2 * ns.length ∧ v = nV r)) (gath0 hD2 trivial) (fun _ H _ p => SqT.of (p.keep.at_ hx)) ?_ ?_
        · rintro k x H8 H9 hk p ⟨rfl, e⟩
          obtain ⟨y, hy, rfl⟩ := map_get e
          obtain ⟨r, hr, hg⟩ := look (p.keep.more) y (hnf.1 y (List.mem_of_getElem? hy))
          refine ⟨rfl, yes_ ?_⟩
          refine ⟨_, rfl, _, rfl, Nm, _, rfl, hg, ?_⟩
          have hxl : xs.length ≤ 3 := hnf.2.2.1.1
          exact p.yes gx_flat hD2 (by rw [List.getElem?_replicate, if_pos (by rw [List.length_map] at hk; exact hk)]) (by rw [List.length_replicate]; exact small_line (by omega)) (Keep.refl _ _) trivial rfl ⟨r, hr, rfl⟩
        intro H8 p
        obtain ⟨k8, _, ys, hy, hq⟩ := p.all (by simp)
        rw [fm_unit] at hq
        obtain ⟨rs, rfl, hrs, hrl2⟩ := units_nats hq
        rw [List.length_replicate] at hrl2
        refine ⟨D2, _, rfl, .inl ⟨SqL.of hy, fun c8 hc8 => ?_⟩⟩
        refine ⟨_, rfl, rfl, _, rfl, iteF ?_⟩
        have hxl : xs.length ≤ 3 := hnf.2.2.1.1
        exact app _ (.ref c8) (.sq t rs) ((k8.new hc8).more) ((wv7.keep k8).keep (keep_new hc8)) rfl rfl ⟨c8, rfl, upd_same⟩ ⟨hrs, hnf.2.1, (by show rs.length ≤ 4; omega), trivial⟩
      | mp t es =>
        obtain ⟨q, qs, rfl, hx, hpe⟩ := hct
        have hel : es.length ≤ 2 := hnf.2.2.1.2
        have ql : qs.length = es.length := paired_len hpe
        refine ⟨_, rfl, rfl, _, rfl, iteF ?_⟩
        refine ⟨_, rfl, rfl, _, rfl, iteT ?_⟩
        refine ⟨_, rfl, q, rfl, ⟨_, SqT.of hx⟩, fun D2 hD2 => ?_⟩
        refine lc_it (walk_tup (xs := qs)) (Gath H7 [] J0 D2 (List.replicate es.length ()) (fun _ => some ()) (fun H v _ => ∃ p : Nat × Nat, PairV H v p ∧ p.1 < 2 * ns.length ∧ p.2 < 2 * ns.length)) (gath0 hD2 trivial) (fun _ H _ p => SqT.of (p.keep.at_ hx)) ?_ ?_
        · rintro k x H8 H9 hk p ⟨rfl, e⟩
          obtain ⟨y, hy, pv⟩ := paired_get hpe e
          obtain ⟨z, rfl, hz⟩ := pv.ext p.keep.ext0
          obtain ⟨b1, b2⟩ := hnf.1 y (List.mem_of_getElem? hy)
          obtain ⟨r1, hr1, hg1⟩ := look (p.keep.more) y.1 b1
          obtain ⟨r2, hr2, hg2⟩ := look (p.keep.more) y.2 b2
          refine ⟨rfl, yes_ ?_⟩
          refine ⟨_, rfl, _, rfl, z, _, _, _, rfl, rfl, SqT.of hz, rfl, Nm, _, rfl, hg1, ?_⟩
          refine ⟨_, rfl, _, rfl, z, _, _, _, rfl, rfl, SqT.of hz, rfl, Nm, _, rfl, hg2, (by show 2 ≤ sizeLine; decide), fun t2 ht2 => ?_⟩
          exact p.yes (gx0 fun _ _ _ _ _ e ⟨p, h1, h2⟩ => ⟨p, h1.ext e, h2⟩) hD2 (by rw [List.getElem?_replicate, if_pos (by omega)]) (by rw [List.length_replicate]; exact small_line (by omega)) (keep_new ht2) trivial rfl ⟨(r1, r2), ⟨t2, rfl, upd_same⟩, hr1, hr2⟩
        intro H8 p
        obtain ⟨k8, _, ys, hy, hq⟩ := p.all (by rw [List.length_replicate]; exact ql)
        rw [fm_unit] at hq
        obtain ⟨fs, hpf, hfs, hfl⟩ := units_of (R := fun H v (p : Nat × Nat) => PairV H v p) hq
        rw [List.length_replicate] at hfl
        refine ⟨D2, _, rfl, .inl ⟨SqL.of hy, fun c8 hc8 => ?_⟩⟩
        have k9 : Keep [l] H7 (upd H8 c8 (.tup ys)) := (k8.new hc8).more
        have wv9 : WellV (upd H8 c8 (.tup ys)) l := (wv7.keep k8).keep (keep_new hc8)
        have hc9 : upd H8 c8 (.tup ys) c8 = some (.tup ys) := upd_same
        have hpf9 : Paired (PairV (upd H8 c8 (.tup ys))) ys fs := pairs_ext (ext_new hc8) hpf
        generalize upd H8 c8 (.tup ys) = H9 at *
        refine ⟨_, rfl, _, rfl, _, rfl, l, 2, rfl, wv9, by decide, by decide, fun H10 r k10 wv10 hr => ⟨_, rfl, ?_⟩⟩
        have hc10 := (wv9.ext k10) _ _ hc9
        have hpf10 := pairs_ext (wv9.ext k10) hpf9
        have hyl := paired_len hpf10
        have done_ : ∀ (H11 : Hp) (c : Addr) (ws : List V) (gs : List (Nat × Nat)), Keep [] H10 H11 → H11 c = some (.tup ws) → Paired (PairV H11) ws gs → (∀ g ∈ gs, g ∈ fs) → gs.length ≤ 4 → _ := fun H11 c ws gs k11 hc hpg hsub hlen =>
          app H11 (.ref c) (.mp t gs) ((k9.trans k10).trans k11.more) (wv10.keep k11) rfl rfl ⟨c, ws, rfl, hc, hpg⟩ ⟨fun g hg => hfs g (hsub g hg), hnf.2.1, hlen, trivial⟩
        refine ⟨c8, ys, rfl, SqT.of hc10, fun _ => ?_, fun _ c11 hc11 => ?_⟩
        · refine ⟨c8, c8, ys, ys, rfl, rfl, SqT.of hc10, SqT.of hc10, small_line' (by omega), fun h0 => ?_, fun h0 h1 => absurd h1 h0, fun _ _ c12 hc12 => ?_⟩
          · exact done_ H10 c8 ys fs (Keep.refl _ _) hc10 hpf10 (fun _ h => h) (by omega)
          · refine done_ _ c12 _ (fs ++ fs) (keep_new hc12) upd_same (paired_cat (pairs_ext (ext_new hc12) hpf10) (pairs_ext (ext_new hc12) hpf10)) (fun g hg => ?_) (by rw [List.length_append]; omega)
            rcases List.mem_append.mp hg with hg | hg <;> exact hg
        · have k11 : Keep [] H10 (upd H10 c11 (.tup (cutV ys none (some (r : Int))))) := keep_new hc11
          have hcc : upd H10 c11 (.tup (cutV ys none (some (r : Int)))) c11 = some (.tup (cutV ys none (some (r : Int)))) := upd_same
          have hc8' := k11.at_ hc10
          have hpc : ∃ gs : List (Nat × Nat), Paired (PairV H10) (cutV ys none (some (r : Int))) gs ∧ (∀ g ∈ gs, g ∈ fs) ∧ gs.length ≤ fs.length := by
            unfold cutV
            refine ⟨_, paired_take _ (paired_drop _ hpf10), fun g hg => List.mem_of_mem_drop (List.mem_of_mem_take hg), ?_⟩
            rw [List.length_take, List.length_drop]
            omega
          obtain ⟨gs, hg1, hg2, hg3⟩ := hpc
          have hgl := paired_len hg1
          generalize cutV ys none (some (r : Int)) = cs at *
          refine ⟨c8, c11, ys, cs, rfl, rfl, SqT.of hc8', SqT.of hcc, small_line' (by omega), fun h0 => ?_, fun h0 h1 => ?_, fun _ _ c12 hc12 => ?_⟩
          · exact done_ _ c11 cs gs k11 hcc (pairs_ext k11.ext0 hg1) hg2 (by omega)
          · exact done_ _ c8 ys fs k11 hc8' (pairs_ext k11.ext0 hpf10) (fun _ h => h) (by omega)
          · have e12 := k11.ext0.trans (ext_new hc12 (o := .tup (ys ++ cs)))
            refine done_ _ c12 _ (fs ++ gs) (k11.new hc12) upd_same (paired_cat (pairs_ext e12 hg1) (pairs_ext e12 hpf10)) (fun g hg => ?_) (by rw [List.length_append]; omega)
            rcases List.mem_append.mp hg with hg | hg
            · exact hg
            · exact hg2 g hg
    · rintro σ H4 ⟨k4, wv4, ⟨us4, ns4, hus4, hp4, hl4, hok4⟩, v4, v5, v6, v7, v8, v9, rfl⟩
      exact ⟨k4, wv4, ⟨us4, ns4, hus4, hp4, by rw [hl4, Nat.succ_mul]; omega, hok4⟩, _, _, _, _, _, _, rfl⟩
  · rintro σ H4 ⟨k4, wv4, ⟨us4, ns4, hus4, hp4, hl4, hok4⟩, v4, v5, v6, v7, v8, v9, rfl⟩
    have hl4 : ns4.length = 2 * ns.length := hl4
    have ul4 := paired_len hp4
    refine ⟨_, rfl, l, 4, rfl, wv4, by decide, by decide, fun H5 r k5 wv5 hr => ⟨rfl, _, rfl, ?_⟩⟩
    have hF5 := k5.at1 hFl hus4
    have hp5 := nds_ext (wv4.ext k5) hp4
    by_cases e0 : nV r = V.int 0
    · rw [decide_eq_true e0]
      refine iteT ⟨_, rfl, _, rfl, _, us4.length, rfl, .inl ⟨_, SqL.of hF5, rfl⟩, l, us4.length, rfl, wv5, by omega, by omega, fun H6 v n k6 wv6 hv hn => ?_⟩
      have hF6 := k6.at1 hFl hF5
      refine ⟨_, rfl, _, rfl, _, rfl, _, us4.length, rfl, .inl ⟨_, SqL.of hF6, rfl⟩, l, us4.length, rfl, wv6, by omega, by omega, fun H7 r7 k7 wv7 hr7 => ?_⟩
      have hF7 := k7.at1 hFl hF6
      refine ⟨F, us4, _, r7, rfl, rfl, hF7, ixn hr7, ?_⟩
      have e7 : Ext H7 (upd H7 F (.lst (us4.set r7 v))) := ext_updl hF7 (by intro xs z; cases z)
      refine ⟨_, rfl, hQ _ F _ (ns4.set r7 n) ((((k4.trans k5).trans k6).trans k7).upd0 hF) (wv7.upd hFl) hF upd_same (paired_set ((hv.ext (wv6.ext k7)).ext e7) r7 (nds_ext e7 (nds_ext (wv6.ext k7) (nds_ext (wv5.ext k6) hp5)))) (by rw [List.length_set]; exact hl4) fun x hx => ?_⟩
      rcases List.mem_or_eq_of_mem_set hx with hx | rfl
      · exact hok4 x hx
      · have := hn.ng
        rw [ul4, hl4] at this
        exact this
    · rw [decide_eq_false e0]
      exact iteF ⟨_, rfl, hQ _ F us4 ns4 (k4.trans k5) wv5 hF hF5 hp5 hl4 hok4⟩
end
end Ap
set_option Elab.async false
set_option linter.all false
set_option maxRecDepth 100000
set_option maxHeartbeats 4000000
namespace Ap
open PySem PySem.Spec PyProof.Rows L2
abbrev N_law_starts : List Str := ["_law_node_here"]
theorem sc_law_starts : FnScope N_law_starts ["_law_node_here"] (defScope s_law_starts) := ⟨rfl, rfl, rfl, by decide +kernel, rfl, by decide +kernel, by decide +kernel⟩

abbrev N_law_shift : List Str := ["_law_node_here", "_law_by", "_law_some", "_law_one_here", "_law_key", "_law_value"]
theorem sc_law_shift : FnScope N_law_shift ["_law_node_here", "_law_by"] (defScope s_law_shift) := ⟨rfl, rfl, rfl, by decide +kernel, rfl, by decide +kernel, by decide +kernel⟩

abbrev N_law_side_by_side : List Str := ["_law_nodes_here", "_law_others", "_law_node_here"]
theorem sc_law_side_by_side : FnScope N_law_side_by_side ["_law_nodes_here", "_law_others"] (defScope s_law_side_by_side) := ⟨rfl, rfl, rfl, by decide +kernel, rfl, by decide +kernel, by decide +kernel⟩

abbrev N_law_is_pair : List Str := ["_law_thing", "_law_nodes_here", "_law_others", "_law_one_here"]
theorem sc_law_is_pair : FnScope N_law_is_pair ["_law_thing", "_law_nodes_here", "_law_others"] (defScope s_law_is_pair) := ⟨rfl, rfl, rfl, by decide +kernel, rfl, by decide +kernel, by decide +kernel⟩

def spStarts : Sp := fun vs H Q _ => ∃ (v : V) (n : Nd), vs = [v] ∧ NdV H v n ∧ n.len ≤ 4 ∧ TxtOk n ∧ ∀ H' v', Keep [] H H' → KeyT H' v' (firstKey n) → Q v' H'
def spSide : Sp := fun vs H Q _ => ∃ (a b : Addr) (us us2 : List V) (ns ms : List Nd), vs = [.ref a, .ref b] ∧ H a = some (.lst us) ∧ H b = some (.lst us2) ∧ Paired (NdV H) us ns ∧ Paired (NdV H) us2 ms ∧ Small ns ∧ Small ms ∧
  ∀ H' p us', Keep [] H H' → H p = none → H' p = some (.lst us') → Paired (NdV H') us' (joinN ns ms) → Q (.ref p) H'
def spLIsPair (C : Addr) : Sp := fun vs H Q _ => ∃ (v : V) (a b : Addr) (us us2 : List V) (o : Option (Nat × Nat)), vs = [v, .ref a, .ref b] ∧ H a = some (.lst us) ∧ H b = some (.lst us2) ∧ ElV C us.length us2.length H v o ∧ ∀ H', Keep [] H H' → Q (.bl o.isSome) H'
section
variable {P : Program} {w : World} {K : PySem.W.Frag} {mg : Str → Option Value} {base : Heap}
theorem w_law_starts (T : Txt K mg) (D : Dn K mg "_law_starts" s_law_starts) : Cl P w K mg base 1 "_law_starts" spStarts := by
  refine cl_of D sc_law_starts (fun vs H Q E h => ?_) (fun _ _ _ _ _ _ us hl => match us, hl with | [_], _ => rfl) fun f cdv A outer s H vs Q E hr h => ?_
  · obtain ⟨v, n, rfl, _⟩ := h
    rfl
  obtain ⟨v, n, rfl, ⟨a, c, rfl, ha, hc⟩, hl, htx, hQ⟩ := h
  have hu := hu_of hr
  refine ⟨_, PSs.nox (pss_one (ps_ret (pe_tup (pa_cons (pe_ix ix_tup (pv 0) pe_int (fun _ _ => rfl)) (pa_cons (pe_ix ix_tup (pv 0) pe_int (fun _ _ => rfl)) (pa_cons (pe_dget hu (pe_disp (pps_cons pe_str (pe_ix ix_tup (pv 0) pe_int (fun _ _ => rfl)) (pps_cons pe_str (pe_callB call_len (by rfl) T.len_ PySem.boot_len (pa_cons (pe_ix ix_tup (pv 0) pe_int (fun _ _ => rfl)) pa_nil)) (pps_cons pe_str pe_non pps_nil))) (by rfl) (by rfl) (fun z => by cases z) (by decide)) (pe_ix ix_tup (pv 0) pe_int (fun _ _ => rfl)) (fun _ _ => rfl)) pa_nil)))))), ?_⟩
  refine ⟨_, rfl, a, _, _, _, rfl, rfl, SqT.of ha, rfl, _, rfl, a, _, _, _, rfl, rfl, SqT.of ha, rfl, fun d hd => ?_⟩
  have kd : Keep [] H (upd H d (.dK [])) := keep_new hd
  have ha1 := kd.at_ ha
  have hc1 := hc.ext kd.ext0
  have hd1 : upd H d (.dK []) d = some (.dK []) := upd_same
  generalize upd H d (.dK []) = H1 at *
  have kin : ∀ (c : V) (z : Int), valV (mergeK [] [(Sum.inr "scalar", c), (Sum.inr "sequence", V.int z), (Sum.inr "mapping", V.non)]) (Sum.inr "scalar") = some c ∧ valV (mergeK [] [(Sum.inr "scalar", c), (Sum.inr "sequence", V.int z), (Sum.inr "mapping", V.non)]) (Sum.inr "sequence") = some (.int z) ∧
      valV (mergeK [] [(Sum.inr "scalar", c), (Sum.inr "sequence", V.int z), (Sum.inr "mapping", V.non)]) (Sum.inr "mapping") = some .non := fun c z => ⟨rfl, rfl, rfl⟩
  cases n with
  | sc t x =>
    obtain rfl : c = .str x := hc1
    have hxl : x.length ≤ sizeLine := by rcases htx with rfl | rfl | rfl <;> decide +kernel
    refine ⟨_, rfl, a, _, _, _, rfl, rfl, SqT.of ha1, rfl, _, rfl, a, _, _, _, rfl, rfl, SqT.of ha1, rfl, .str x, x.length, rfl, ⟨hxl, rfl⟩, hd1, [(Sum.inr "scalar", .str x), (Sum.inr "sequence", .int x.length), (Sum.inr "mapping", .non)], rfl, (by show 3 ≤ 15; decide), ?_⟩
    have k2 : Keep [] H (upd H1 d (.dK (mergeK [] [(Sum.inr "scalar", .str x), (Sum.inr "sequence", .int x.length), (Sum.inr "mapping", .non)]))) := kd.upd0 hd
    refine ⟨_, rfl, a, _, _, _, rfl, rfl, SqT.of (k2.at_ ha), rfl, d, _, rfl, .inl ⟨_, Sum.inr "scalar", .inl upd_same, rfl, (kin _ _).1.symm⟩, (by show 3 ≤ sizeLine; decide), fun p hp => ?_⟩
    exact hQ _ _ (k2.new hp) ⟨p, rfl, .tup upd_same (.cons (.text _) (.cons (.text _) (.cons (.text _) .nil))), first_depth (.sc t x)⟩
  | sq t xs =>
    obtain ⟨q, rfl, hx⟩ := hc1
    refine ⟨_, rfl, a, _, _, _, rfl, rfl, SqT.of ha1, rfl, _, rfl, a, _, _, _, rfl, rfl, SqT.of ha1, rfl, .ref q, xs.length, rfl, .inr ⟨_, SqT.of hx, by rw [List.length_map]⟩, hd1, [(Sum.inr "scalar", .ref q), (Sum.inr "sequence", .int xs.length), (Sum.inr "mapping", .non)], rfl, (by show 3 ≤ 15; decide), ?_⟩
    have k2 : Keep [] H (upd H1 d (.dK (mergeK [] [(Sum.inr "scalar", .ref q), (Sum.inr "sequence", .int xs.length), (Sum.inr "mapping", .non)]))) := kd.upd0 hd
    refine ⟨_, rfl, a, _, _, _, rfl, rfl, SqT.of (k2.at_ ha), rfl, d, _, rfl, .inl ⟨_, Sum.inr "sequence", .inl upd_same, rfl, (kin _ _).2.1.symm⟩, (by show 3 ≤ sizeLine; decide), fun p hp => ?_⟩
    exact hQ _ _ (k2.new hp) ⟨p, rfl, .tup upd_same (.cons (.text _) (.cons (.text _) (.cons (.num _) .nil))), first_depth (.sq t xs)⟩
  | mp t es =>
    obtain ⟨q, us, rfl, hx, hp⟩ := hc1
    refine ⟨_, rfl, a, _, _, _, rfl, rfl, SqT.of ha1, rfl, _, rfl, a, _, _, _, rfl, rfl, SqT.of ha1, rfl, .ref q, us.length, rfl, .inr ⟨_, SqT.of hx, rfl⟩, hd1, [(Sum.inr "scalar", .ref q), (Sum.inr "sequence", .int us.length), (Sum.inr "mapping", .non)], rfl, (by show 3 ≤ 15; decide), ?_⟩
    have k2 : Keep [] H (upd H1 d (.dK (mergeK [] [(Sum.inr "scalar", .ref q), (Sum.inr "sequence", .int us.length), (Sum.inr "mapping", .non)]))) := kd.upd0 hd
    refine ⟨_, rfl, a, _, _, _, rfl, rfl, SqT.of (k2.at_ ha), rfl, d, _, rfl, .inl ⟨_, Sum.inr "mapping", .inl upd_same, rfl, (kin _ _).2.2.symm⟩, (by show 3 ≤ sizeLine; decide), fun p hp => ?_⟩
    exact hQ _ _ (k2.new hp) ⟨p, rfl, .tup upd_same (.cons (.text _) (.cons (.text _) (.cons .none .nil))), first_depth (.mp t es)⟩
theorem w_law_shift (T : Txt K mg) (D : Dn K mg "_law_shift" s_law_shift) : Cl P w K mg base 1 "_law_shift" spShift := by
  refine cl_of D sc_law_shift (fun vs H Q E h => ?_) (fun _ _ _ _ _ _ us hl => match us, hl with | [_, _], _ => rfl) fun f cdv A outer s H vs Q E hr h => ?_
  · obtain ⟨v, n, b, rfl, _⟩ := h
    rfl
  obtain ⟨v, n, b, rfl, ⟨a, c, rfl, ha, hc⟩, hl, hQ⟩ := h
  refine ⟨_, PSs.nox (pss_cons (ps_if (pt_cmpR op_eq (pe_ix ix_tup (pv 0) pe_int (fun _ _ => rfl)) pe_str (nomark _)) (pss_one (ps_ret (pe_op op_catA (pe_slice sl_tupA (pv 0) po_none (po_some pe_int)) (pe_tup (pa_cons (pe_callTy call_tuple_of (by rfl) T.tuple_ PyProof.Rows.boot_tuple (pa_cons (pe_lc (own := [("_law_one_here", 3)]) (g := (gName 3)) (tt := tYes) rfl sc_law_shift.nd (pi_tup (pe_ix ix_tup (pv 0) pe_int (fun _ _ => rfl))) (blkOk_by (own := [("_law_one_here", 3)]) (N := N_law_shift) (sc := (defScope s_law_shift)) (by decide +kernel)) (fun _ _ _ _ _ => (pg_name (i := 3) sc_law_shift.nd rfl (Or.inl rfl))) (fun _ _ _ _ _ => pts_nil) (fun _ _ _ _ _ => (pe_op op_add (pv 3) (pv 1)))) pa_nil)) pa_nil))))) pss_nil) (pss_cons (ps_if (pt_cmpR op_eq (pe_ix ix_tup (pv 0) pe_int (fun _ _ => rfl)) pe_str (nomark _)) (pss_cons (ps_setLc (i := 2) (own := [("_law_key", 4), ("_law_value", 5)]) (g := (gTup K 2 (gCons (gName 4) (gCons (gName 5) gNil)))) (tt := tYes) rfl sc_law_shift.nd rfl rfl (sw_true rfl rfl rfl (by decide +kernel)) (pi_tup (pe_ix ix_tup (pv 0) pe_int (fun _ _ => rfl))) (blkOk_by (own := [("_law_key", 4), ("_law_value", 5)]) (N := N_law_shift) (sc := (defScope s_law_shift)) (by decide +kernel)) (fun _ _ _ _ _ => (pg_tup (by rfl) (pgs_cons (pg_name (i := 4) sc_law_shift.nd rfl (Or.inl rfl)) (pgs_cons (pg_name (i := 5) sc_law_shift.nd rfl (Or.inl rfl)) pgs_nil)))) (fun _ _ _ _ _ => pts_nil) (fun _ _ _ _ _ => (pe_tup (pa_cons (pe_op op_add (pv 4) (pv 1)) (pa_cons (pe_op op_add (pv 5) (pv 1)) pa_nil))))) (pss_one (ps_ret (pe_op op_catA (pe_slice sl_tupA (pv 0) po_none (po_some pe_int)) (pe_tup (pa_cons (pe_callTy call_tuple_of (by rfl) T.tuple_ PyProof.Rows.boot_tuple (pa_cons (pv 2) pa_nil)) pa_nil)))))) pss_nil) (pss_one (ps_ret (pv 0))))), ?_⟩
  cases n with
  | sc t x =>
    obtain rfl : c = .str x := hc
    refine ⟨_, rfl, a, _, _, _, rfl, rfl, SqT.of ha, rfl, rfl, _, rfl, iteF ?_⟩
    refine ⟨_, rfl, a, _, _, _, rfl, rfl, SqT.of ha, rfl, rfl, _, rfl, iteF ?_⟩
    exact ⟨_, rfl, hQ _ _ (Keep.refl _ _) ⟨a, _, rfl, ha, rfl⟩⟩
  | sq t xs =>
    obtain ⟨q, rfl, hx⟩ := hc
    refine ⟨_, rfl, a, _, _, _, rfl, rfl, SqT.of ha, rfl, rfl, _, rfl, iteT ?_⟩
    refine ⟨_, rfl, _, rfl, a, _, rfl, SqT.of ha, fun z => absurd z.2 (by show ¬ HT.sIx 3 3 (some 2) = 3; decide), fun _ c2 hc2 => ?_⟩
    have kc : Keep [] H (upd H c2 (.tup (cutV [.str (Nd.sq t xs).kind, .str (Nd.sq t xs).tag, .ref q] none (some 2)))) := keep_new hc2
    have hcc : upd H c2 (.tup (cutV [.str (Nd.sq t xs).kind, .str (Nd.sq t xs).tag, .ref q] none (some 2))) c2 = some (.tup [.str "sequence", .str t]) := upd_same
    generalize upd H c2 (.tup (cutV [.str (Nd.sq t xs).kind, .str (Nd.sq t xs).tag, .ref q] none (some 2))) = H1 at *
    have hx1 := kc.at_ hx
    refine ⟨_, rfl, a, _, _, _, rfl, rfl, SqT.of (kc.at_ ha), rfl, q, rfl, ⟨_, SqT.of hx1⟩, fun D hD => ?_⟩
    refine lc_it (walk_tup (xs := xs.map nV)) (Gath H1 [] J0 D xs (fun x => some (x + b)) (fun _ v z => v = nV z)) (gath0 hD trivial) (fun _ H _ p => SqT.of (p.keep.at_ hx1)) ?_ ?_
    · rintro i x H2 H3 hi p ⟨rfl, e⟩
      obtain ⟨k, hk, rfl⟩ := map_get e
      refine ⟨rfl, yes_ ?_⟩
      refine ⟨_, rfl, _, rfl, _, _, rfl, rfl, ?_⟩
      exact p.yes gx_flat hD hk (small_line (by have : xs.length ≤ 4 := hl; omega)) (Keep.refl _ _) trivial rfl (congrArg V.int (by push_cast; rfl))
    · intro H2 p
      obtain ⟨k, _, ys, hy, hp⟩ := p.all (by rw [List.length_map])
      rw [fm_some] at hp
      rw [paired_eq hp] at hy
      refine ⟨D, _, rfl, .inl ⟨SqL.of hy, fun l hl2 => ?_⟩⟩
      refine ⟨(by show 1 ≤ sizeLine; decide), fun l2 hl3 => ?_⟩
      have k3 : Keep [] H2 (upd (upd H2 l (.tup ((xs.map fun x => x + b).map nV))) l2 (.tup [.ref l])) := (keep_new hl2).new hl3
      refine ⟨c2, l2, _, _, rfl, rfl, SqT.of (k3.at_ (k.at_ hcc)), SqT.of upd_same, (by show 3 ≤ sizeLine; decide), fun z => (by cases z), fun _ z => (by cases z), fun _ _ r hr2 => ?_⟩
      have hl4 : upd (upd H2 l (.tup ((xs.map fun x => x + b).map nV))) l2 (.tup [.ref l]) l = some (.tup ((xs.map fun x => x + b).map nV)) := (keep_new (ex := []) hl3).at_ upd_same
      exact hQ _ _ (((kc.trans k).trans k3).new hr2) ⟨r, _, rfl, upd_same, l, rfl, (keep_new (ex := []) hr2).at_ hl4⟩
  | mp t es =>
    obtain ⟨q, us, rfl, hx, hpp⟩ := hc
    refine ⟨_, rfl, a, _, _, _, rfl, rfl, SqT.of ha, rfl, rfl, _, rfl, iteF ?_⟩
    refine ⟨_, rfl, a, _, _, _, rfl, rfl, SqT.of ha, rfl, rfl, _, rfl, iteT ?_⟩
    refine ⟨_, rfl, a, _, _, _, rfl, rfl, SqT.of ha, rfl, q, rfl, ⟨_, SqT.of hx⟩, fun D hD => ?_⟩
    have hul : us.length = es.length := paired_len hpp
    refine lc_it (walk_tup (xs := us)) (Gath _ [] J0 D es (fun e => some (e.1 + b, e.2 + b)) PairV) (gath0 hD trivial) (fun _ H _ p => SqT.of (p.keep.at_ hx)) ?_ ?_
    · rintro i x H2 H3 hi p ⟨rfl, e⟩
      obtain ⟨y, hy, pv⟩ := paired_get hpp e
      obtain ⟨z, rfl, hz⟩ := pv.ext p.keep.ext0
      refine ⟨z, _, rfl, SqT.of hz, rfl, _, _, rfl, _, _, rfl, rfl, rfl, yes_ ?_⟩
      refine ⟨_, rfl, _, rfl, _, _, rfl, rfl, _, rfl, _, rfl, _, _, rfl, rfl, (by show 2 ≤ sizeLine; decide), fun p2 hp2 => ?_⟩
      exact p.yes (gx0 fun H H' v b k e h => h.ext e) hD hy (small_line (by have : es.length ≤ 4 := hl; omega)) (keep_new hp2) trivial rfl ⟨p2, rfl, upd_same⟩
    · intro H2 p
      obtain ⟨k, _, ys, hy, hp⟩ := p.all hul
      rw [fm_some] at hp
      refine ⟨_, rfl, _, rfl, a, _, rfl, SqT.of (k.at_ ha), fun z => absurd z.2 (by show ¬ HT.sIx 3 3 (some 2) = 3; decide), fun _ c2 hc2 => ?_⟩
      have kc : Keep [] H2 (upd H2 c2 (.tup (cutV [.str (Nd.mp t es).kind, .str (Nd.mp t es).tag, .ref q] none (some 2)))) := keep_new hc2
      have hcc : upd H2 c2 (.tup (cutV [.str (Nd.mp t es).kind, .str (Nd.mp t es).tag, .ref q] none (some 2))) c2 = some (.tup [.str "mapping", .str t]) := upd_same
      generalize upd H2 c2 (.tup (cutV [.str (Nd.mp t es).kind, .str (Nd.mp t es).tag, .ref q] none (some 2))) = H4 at *
      refine ⟨_, rfl, D, _, rfl, .inl ⟨SqL.of (kc.at_ hy), fun l hl2 => ?_⟩⟩
      refine ⟨(by show 1 ≤ sizeLine; decide), fun l2 hl3 => ?_⟩
      have k3 : Keep [] H4 (upd (upd H4 l (.tup ys)) l2 (.tup [.ref l])) := (keep_new hl2).new hl3
      refine ⟨c2, l2, _, _, rfl, rfl, SqT.of (k3.at_ hcc), SqT.of upd_same, (by show 3 ≤ sizeLine; decide), fun z => (by cases z), fun _ z => (by cases z), fun _ _ r hr2 => ?_⟩
      have hl4 : upd (upd H4 l (.tup ys)) l2 (.tup [.ref l]) l = some (.tup ys) := (keep_new (ex := []) hl3).at_ upd_same
      have kr := ((kc.trans k3).new (o := .tup ([.str "mapping", .str t] ++ [.ref l])) hr2)
      exact hQ _ _ (k.trans kr) ⟨r, _, rfl, upd_same, l, _, rfl, (keep_new (ex := []) hr2).at_ hl4, pairs_ext kr.ext0 hp⟩
theorem w_law_side_by_side (T : Txt K mg) (c_law_shift : Cl P w K mg base 1 "_law_shift" spShift) (D : Dn K mg "_law_side_by_side" s_law_side_by_side) : Cl P w K mg base 2 "_law_side_by_side" spSide := by
  refine cl_of D sc_law_side_by_side (fun vs H Q E h => ?_) (fun _ _ _ _ _ _ us hl => match us, hl with | [_, _], _ => rfl) fun f cdv A outer s H vs Q E hr h => ?_
  · obtain ⟨a, b, us, us2, ns, ms, rfl, _⟩ := h
    rfl
  obtain ⟨a, b, us, us2, ns, ms, rfl, ha, hb, hp, hp2, ⟨l1, m1⟩, ⟨l2, m2⟩, hQ⟩ := h
  have e1 : us.length = ns.length := paired_len hp
  have e2 : us2.length = ms.length := paired_len hp2
  refine ⟨_, PSs.nox (pss_one (ps_ret (pe_op op_cat (pe_callTy call_list_of (by rfl) T.list_ PyProof.Rows.boot_list (pa_cons (pv 0) pa_nil)) (pe_lc (own := [("_law_node_here", 2)]) (g := (gName 2)) (tt := tYes) rfl sc_law_side_by_side.nd (pi_list (pv 1)) (blkOk_by (own := [("_law_node_here", 2)]) (N := N_law_side_by_side) (sc := (defScope s_law_side_by_side)) (by decide +kernel)) (fun _ _ _ _ _ => (pg_name (i := 2) sc_law_side_by_side.nd rfl (Or.inl rfl))) (fun _ _ _ _ _ => pts_nil) (fun _ _ _ _ _ => (pe_cl c_law_shift hr (by decide) rfl (pa_cons (pv 2) (pa_cons (pe_callB (kLen (K := K) rfl) (by rfl) T.len_ PySem.boot_len (pa_cons (pv 0) pa_nil)) pa_nil)))))))), ?_⟩
  refine ⟨_, rfl, a, us, rfl, .inl (SqL.of ha), fun l hl => ?_⟩
  have k1 : Keep [] H (upd H l (.lst us)) := keep_new hl
  refine ⟨_, rfl, b, rfl, ⟨_, SqL.of (k1.at_ hb)⟩, fun D hD => ?_⟩
  refine lc_it (walk_list (xs := us2)) (Gath _ [] J0 D ms (fun x => some (x.shift ns.length)) NdV) (gath0 hD trivial) (fun _ H _ p => SqL.of (p.keep.at_ (k1.at_ hb))) ?_ ?_
  · rintro i x H2 H3 hi p ⟨rfl, e⟩
    obtain ⟨y, hy, pv⟩ := paired_get hp2 e
    have k2 := k1.trans p.keep
    refine ⟨rfl, yes_ ?_⟩
    refine ⟨_, rfl, _, rfl, _, us.length, rfl, .inl ⟨_, SqL.of (k2.at_ ha), rfl⟩, x, y, ns.length, by rw [e1], pv.ext k2.ext0, m2 y (List.mem_of_getElem? hy), fun H4 v4 k4 hv => ?_⟩
    exact p.yes (gx0 fun H H' v b k e h => h.ext e) hD hy (small_line (by omega)) k4 trivial rfl hv
  · intro H2 p
    obtain ⟨k, _, ys, hy, hq⟩ := p.all e2
    rw [fm_some] at hq
    have k3 := k1.trans k
    have hys : ys.length = ms.length := by rw [paired_len hq, List.length_map]
    refine ⟨l, D, us, ys, rfl, rfl, k.at_ upd_same, hy, small_line' (by omega), fun q hq2 => ?_⟩
    refine hQ _ q _ (k3.new hq2) (none_of k3 hq2) upd_same (nds_ext (keep_new hq2).ext0 ?_)
    exact paired_cat hq (nds_ext k3.ext0 hp)
theorem el_cases {C : Addr} (GG : GC K mg C) {a b : Nat} {H : Hp} {v : V} {o : Option (Nat × Nat)} (he : ElV C a b H v o) :
    (∃ t, TyX K H v t ∧ PySem.W.kitOne K t (.type "tuple") = some false ∧ o.isSome = false) ∨ ∃ q us, v = .ref q ∧ H q = some (.tup us) ∧ ((us.length ≠ 2 ∧ us.length ≤ 100 ∧ o.isSome = false) ∨ ∃ x y, us = [x, y] ∧ Scal x ∧ Scal y ∧ (fromB x 0 ((a : Int) - 1) && fromB y 0 ((b : Int) - 1)) = o.isSome) := by
  cases o with
  | some p =>
    obtain ⟨⟨q, rfl, hq⟩, h1, h2⟩ := he
    exact .inr ⟨q, _, rfl, hq, .inr ⟨_, _, rfl, .int _, .int _, by rw [fromB_nat h1, fromB_nat h2]; rfl⟩⟩
  | none =>
    rcases he with he | ⟨q, us, h1, h2, h3⟩
    · obtain ⟨t, t1, t2⟩ := kit_of_tuple GG he
      exact .inl ⟨t, t1, t2, rfl⟩
    · refine .inr ⟨q, us, h1, h2, ?_⟩
      rcases h3 with h3 | h3
      · exact .inl ⟨h3.1, h3.2, rfl⟩
      · exact .inr h3
def badV : V → Bool
  | .int _ => false
  | _ => true
theorem bad_no {x : V} {a b : Int} (h : badV x = true) : fromB x a b = false := by
  cases x <;> first | rfl | cases h
theorem dec_lt (i : Int) (n : Nat) : decide (i < (n : Int)) = decide (i ≤ (n : Int) - 1) := decide_eq_decide.mpr (by omega)
theorem w_law_is_pair {C : Addr} (T : Txt K mg) (GG : GC K mg C) (D : Dn K mg "_law_is_pair" s_law_is_pair) : Cl P w K mg base 1 "_law_is_pair" (spLIsPair C) := by
  refine cl_of D sc_law_is_pair (fun vs H Q E h => ?_) (fun _ _ _ _ _ _ us hl => match us, hl with | [_, _, _], _ => rfl) fun f cdv A outer s H vs Q E hr h => ?_
  · obtain ⟨v, a, b, us, us2, o, rfl, _⟩ := h
    rfl
  obtain ⟨v, a, b, us, us2, o, rfl, ha, hb, he, hQ⟩ := h
  refine ⟨_, PSs.nox (pss_cons (ps_if (PW.pt (pw_or (pt_not (pt_val (pe_callB call_isi (by rfl) T.isi_ PyProof.Rows.boot_isinstance (pa_cons (pv 0) (pa_cons (pe_bltn (v := .ty "tuple") (by rfl) T.tuple_ PyProof.Rows.boot_tuple rfl) pa_nil))))) (pw_or1 (pt_cmpR op_ne (pe_callB call_len (by rfl) T.len_ PySem.boot_len (pa_cons (pv 0) pa_nil)) pe_int (nomark _))))) (pss_one (ps_ret pe_bl)) pss_nil) (pss_cons (ps_if (pt_cmpR (op_neD hr.units) (pe_lc (own := [("_law_one_here", 3)]) (g := (gName 3)) rfl sc_law_is_pair.nd (pi_tup (pv 0)) (blkOk_by (own := [("_law_one_here", 3)]) (N := N_law_is_pair) (sc := (defScope s_law_is_pair)) (by decide +kernel)) (fun _ _ _ _ _ => (pg_name (i := 3) sc_law_is_pair.nd rfl (Or.inl rfl))) (fun _ _ _ _ _ => pts_one (PW.pt (pw_or (pt_not (pt_val (pe_callB (kIsi (K := K) rfl) (by rfl) T.isi_ PyProof.Rows.boot_isinstance (pa_cons (pv 3) (pa_cons (pe_bltn (v := .ty "int") (by rfl) T.int_ PyProof.Rows.boot_int rfl) pa_nil))))) (pw_or1 (pt_val (pe_callB (kIsi (K := K) rfl) (by rfl) T.isi_ PyProof.Rows.boot_isinstance (pa_cons (pv 3) (pa_cons (pe_bltn (v := .ty "bool") (by rfl) T.bool_ PyProof.Rows.boot_bool rfl) pa_nil)))))))) (fun _ _ _ _ _ => pe_int)) (pe_lst pa_nil) (nomark _)) (pss_one (ps_ret pe_bl)) pss_nil) (pss_one (ps_ret (pe_and (pe_chain op_le op_lt pe_int (pe_ix ix_tup (pv 0) pe_int (fun _ _ => rfl)) (pe_callB call_len (by rfl) T.len_ PySem.boot_len (pa_cons (pv 1) pa_nil))) (pe_one (pe_chain op_le op_lt pe_int (pe_ix ix_tup (pv 0) pe_int (fun _ _ => rfl)) (pe_callB call_len (by rfl) T.len_ PySem.boot_len (pa_cons (pv 2) pa_nil))))))))), ?_⟩
  rcases el_cases GG he with ⟨ty, t1, t2, ho⟩ | ⟨q, qs, rfl, hq, hz⟩
  · refine ⟨_, rfl, v, .ty "tuple", ty, .type "tuple", false, rfl, .ty "tuple", t1, t2, _, rfl, iteT ?_⟩
    have := hQ _ (Keep.refl _ _)
    rw [ho] at this
    exact this
  refine ⟨_, rfl, .ref q, .ty "tuple", .type "tuple", .type "tuple", true, rfl, .ty "tuple", .base (.tup hq), kit_ty (by decide +kernel), _, rfl, iteF ?_⟩
  refine ⟨_, rfl, _, qs.length, rfl, .inr ⟨_, SqT.of hq, rfl⟩, rfl, _, rfl, ?_⟩
  rcases hz with ⟨z1, z2, ho⟩ | ⟨x, y, rfl, sx, sy, ho⟩
  · rw [show (!decide (V.int (qs.length : Int) = V.int 2)) = true by rw [decide_eq_false (fun e => z1 (by injection e with e; omega))]; rfl]
    have := hQ _ (Keep.refl _ _)
    rw [ho] at this
    exact iteT this
  refine iteF ?_
  refine ⟨_, rfl, q, rfl, ⟨_, SqT.of hq⟩, fun D hD => ?_⟩
  refine lc_it (walk_tup (xs := [x, y])) (Gath H [] J0 D [x, y] (fun v => if badV v = true then some 1 else none) (fun _ v z => v = nV z)) (gath0 hD trivial) (fun _ H _ p => SqT.of (p.keep.at_ hq)) ?_ ?_
  · rintro i u H2 H3 hi p ⟨rfl, e⟩
    have su : Scal u := by
      match i, hi with
      | 0, _ => rw [← Option.some.inj e]; exact sx
      | 1, _ => rw [← Option.some.inj e]; exact sy
    refine ⟨rfl, ?_⟩
    cases su with
    | int k =>
      refine ⟨_, rfl, .int k, .ty "int", .type "int", .type "int", true, rfl, .ty "int", .base (.int k), kit_ty (by decide +kernel), _, rfl, iteF ?_⟩
      refine ⟨_, rfl, .int k, .ty "bool", .type "int", .type "bool", false, rfl, .ty "bool", .base (.int k), kit_ty (by decide +kernel), _, rfl, iteF ?_⟩
      exact p.no gx_flat e (Keep.refl _ _) trivial rfl
    | bl k =>
      refine ⟨_, rfl, .bl k, .ty "int", .type "bool", .type "int", true, rfl, .ty "int", .base (.bl k), kit_ty (by decide +kernel), _, rfl, iteF ?_⟩
      refine ⟨_, rfl, .bl k, .ty "bool", .type "bool", .type "bool", true, rfl, .ty "bool", .base (.bl k), kit_ty (by decide +kernel), _, rfl, iteT ?_⟩
      exact p.yes gx_flat hD e (by show 2 < sizeLine; decide) (Keep.refl _ _) trivial rfl rfl
    | str k =>
      refine ⟨_, rfl, .str k, .ty "int", .type "str", .type "int", false, rfl, .ty "int", .base (.str k), kit_ty (by decide +kernel), _, rfl, iteT (iteT ?_)⟩
      exact p.yes gx_flat hD e (by show 2 < sizeLine; decide) (Keep.refl _ _) trivial rfl rfl
  intro H2 p
  obtain ⟨k2, _, ys, hy, hp⟩ := p.all rfl
  rw [paired_eq hp] at hy
  refine ⟨(by show 0 ≤ sizeLine; decide), fun e0 he0 => ?_⟩
  have ke : Keep [] H2 (upd H2 e0 (.lst [])) := keep_new he0
  have k3 := k2.trans ke
  refine ⟨_, _, dp_nats (SqL.of (ke.at_ hy)), dp_nats (ns := []) (SqL.of upd_same), dNs_shaped _, dNs_shaped _, _, rfl, ?_⟩
  rw [dNs_eqv]
  have hfin := hQ _ k3
  generalize upd H2 e0 (.lst []) = H4 at *
  cases bx : badV x with
  | true =>
    rw [bad_no bx, Bool.false_and] at ho
    rw [← ho] at hfin
    rw [decide_eq_false (by simp [bx])]
    exact iteT hfin
  | false =>
    cases sx with
    | bl _ => cases bx
    | str _ => cases bx
    | int i =>
      cases by_ : badV y with
      | true =>
        rw [bad_no by_, Bool.and_false] at ho
        rw [← ho] at hfin
        rw [decide_eq_false (by simp [bx, by_])]
        exact iteT hfin
      | false =>
        cases sy with
        | bl _ => cases by_
        | str _ => cases by_
        | int j =>
          rw [decide_eq_true (by simp [bx, by_])]
          refine iteF ?_
          have hq4 := k3.at_ hq
          have ho' : ((decide ((0 : Int) ≤ i) && decide (i ≤ (us.length : Int) - 1)) && (decide ((0 : Int) ≤ j) && decide (j ≤ (us2.length : Int) - 1))) = o.isSome := ho
          rw [← ho', ← dec_lt, ← dec_lt] at hfin
          refine ⟨_, rfl, q, _, _, _, rfl, rfl, SqT.of hq4, rfl, _, _, rfl, rfl, _, rfl, ?_⟩
          have second : ∀ (H5 : Hp), H5 = H4 → Q (.bl (decide ((0 : Int) ≤ j) && decide (j < (us2.length : Int)))) H5 → _ := fun H5 e z => z
          cases e1 : decide ((0 : Int) ≤ i) with
          | false =>
            rw [e1, Bool.false_and, Bool.false_and] at hfin
            exact iteF ⟨_, rfl, iteF hfin⟩
          | true =>
            rw [e1, Bool.true_and] at hfin
            refine iteT ⟨_, rfl, _, us.length, rfl, .inl ⟨_, SqL.of (k3.at_ ha), rfl⟩, _, _, rfl, rfl, _, rfl, ?_⟩
            cases e2 : decide (i < (us.length : Int)) with
            | false =>
              rw [e2, Bool.false_and] at hfin
              exact iteF hfin
            | true =>
              rw [e2, Bool.true_and] at hfin
              refine iteT ⟨_, rfl, q, _, _, _, rfl, rfl, SqT.of hq4, rfl, _, _, rfl, rfl, _, rfl, ?_⟩
              cases e3 : decide ((0 : Int) ≤ j) with
              | false =>
                rw [e3, Bool.false_and] at hfin
                exact iteF hfin
              | true =>
                rw [e3, Bool.true_and] at hfin
                exact iteT ⟨_, rfl, _, us2.length, rfl, .inl ⟨_, SqL.of (k3.at_ hb), rfl⟩, _, _, rfl, rfl, hfin⟩
end
end Ap
set_option Elab.async false
set_option linter.all false
set_option maxRecDepth 100000
set_option maxHeartbeats 4000000
namespace Ap
open PySem PySem.Spec PyProof.Rows L2
abbrev N_law_stands : List Str := ["_law_mine", "_law_its", "_law_known", "_law_some", "_law_pair", "_law_two", "_law_here", "_law_there", "_law_one_here"]
theorem sc_law_stands : FnScope N_law_stands ["_law_mine", "_law_its", "_law_known"] (defScope s_law_stands) := ⟨rfl, rfl, rfl, by decide +kernel, rfl, by decide +kernel, by decide +kernel⟩

def spLStands : Sp := fun vs H Q _ => ∃ (u v : V) (n m : Nd) (d : Addr) (ks : List V) (known : List (Nat × Nat)), vs = [u, v, .ref d] ∧ NdV H u n ∧ NdV H v m ∧ n.len ≤ 4 ∧ m.len ≤ 4 ∧ TxtOk n ∧ TxtOk m ∧ Lay n ∧ Lay m ∧ H d = some (.lst ks) ∧ Paired (PairV H) ks known ∧
  ∀ H', Keep [] H H' → Q (.bl (standsP known n m)) H'
/-- a tuple of two pairs -/
def PP (H : Hp) (v : V) (p : (Nat × Nat) × (Nat × Nat)) : Prop := ∃ t u1 u2, v = .ref t ∧ H t = some (.tup [u1, u2]) ∧ PairV H u1 p.1 ∧ PairV H u2 p.2
theorem PP.ext {H H' : Hp} {v : V} {p : (Nat × Nat) × (Nat × Nat)} (e : Ext H H') (h : PP H v p) : PP H' v p := by
  obtain ⟨t, u1, u2, h1, h2, h3, h4⟩ := h
  exact ⟨t, u1, u2, h1, e _ _ h2, h3.ext e, h4.ext e⟩
/-- which entries fit which -/
def sRow (known : List (Nat × Nat)) (fs : List (Nat × Nat)) (e : Nat × Nat) : List ((Nat × Nat) × (Nat × Nat)) := (fs.filter (fitE known e)).map fun f => (e, f)
def sAll (known es fs : List (Nat × Nat)) : List ((Nat × Nat) × (Nat × Nat)) := es.flatMap (sRow known fs)
theorem mem_sAll {known es fs : List (Nat × Nat)} {e f : Nat × Nat} : (e, f) ∈ sAll known es fs ↔ e ∈ es ∧ f ∈ fs ∧ fitE known e f = true := by
  unfold sAll sRow
  simp only [List.mem_flatMap, List.mem_map, List.mem_filter]
  constructor
  · rintro ⟨e', h1, f', ⟨h2, h3⟩, h4⟩
    cases h4
    exact ⟨h1, h2, h3⟩
  · rintro ⟨h1, h2, h3⟩
    exact ⟨e, h1, f, ⟨h2, h3⟩, rfl⟩
theorem sRow_len {known fs : List (Nat × Nat)} {e : Nat × Nat} : (sRow known fs e).length ≤ fs.length := by
  unfold sRow
  rw [List.length_map]
  exact List.length_filter_le _ _
theorem sAll_len {known fs : List (Nat × Nat)} : ∀ {es : List (Nat × Nat)}, (sAll known es fs).length ≤ es.length * fs.length
  | [] => by simp [sAll]
  | e :: es => by
    unfold sAll
    rw [List.flatMap_cons, List.length_append, List.length_cons, Nat.succ_mul]
    have h1 := sRow_len (known := known) (fs := fs) (e := e)
    have h2 := sAll_len (known := known) (fs := fs) (es := es)
    unfold sAll at h2
    omega
theorem sRow_snoc {known fs : List (Nat × Nat)} {e f : Nat × Nat} : sRow known (fs ++ [f]) e = sRow known fs e ++ if fitE known e f = true then [(e, f)] else [] := by
  unfold sRow
  rw [List.filter_append, List.map_append]
  congr 1
  by_cases h : fitE known e f = true
  · rw [if_pos h]; simp [h]
  · rw [if_neg h]; simp [h]
theorem left_out {es hs : List (Nat × Nat)} : (es.filterMap fun e => if e ∈ hs then none else some e) = [] ↔ ∀ e ∈ es, e ∈ hs := by
  induction es with
  | nil => simp
  | cons e es ih =>
    rw [List.filterMap_cons]
    by_cases h : e ∈ hs
    · simp only [h, if_true]
      rw [ih]
      simp [h]
    · simp [h]
section
variable {P : Program} {w : World} {K : PySem.W.Frag} {mg : Str → Option Value} {base : Heap}
theorem dp_pair {H : Hp} {t : Addr} {p : Nat × Nat} (h : H t = some (.tup [nV p.1, nV p.2])) : Dp K H (.ref t) (dk (pk p)) := KeyV.dp _ _ (pairV_key ⟨t, rfl, h⟩)
theorem w_law_stands (T : Txt K mg) (c_law_starts : Cl P w K mg base 1 "_law_starts" spStarts) (D : Dn K mg "_law_stands" s_law_stands) : Cl P w K mg base 2 "_law_stands" spLStands := by
  refine cl_of D sc_law_stands (fun vs H Q E h => ?_) (fun _ _ _ _ _ _ us hl => match us, hl with | [_, _, _], _ => rfl) fun f cdv A outer s H vs Q E hr h => ?_
  · obtain ⟨u, v, n, m, d, kvs, known, rfl, _⟩ := h
    rfl
  obtain ⟨u, v, n, m, d, ks, known, rfl, hn, hm, l1, l2, x1, x2, y1, y2, hd, hkn, hQ⟩ := h
  have hu65 : (A.deeper (envOfC "_law_stands" (defScope s_law_stands) s.heap.objs.size f cdv)).units + 65 < cLine := by have := hr.un; omega
  refine ⟨_, PSs.nox (pss_cons (ps_if (pt_cmpR (op_neD hr.units) (pe_cl c_law_starts hr (by decide) rfl (pa_cons (pv 0) pa_nil)) (pe_cl c_law_starts hr (by decide) rfl (pa_cons (pv 1) pa_nil)) (nomark _)) (pss_one (ps_ret pe_bl)) pss_nil) (pss_cons (ps_if (pt_cmpR op_eq (pe_ix ix_tup (pv 0) pe_int (fun _ _ => rfl)) pe_str (nomark _)) (pss_one (ps_ret (pe_cmpR (op_eqD hr.units) (pe_lc (own := [("_law_pair", 4)]) (g := (gName 4)) rfl sc_law_stands.nd (pi_zipN (by rfl) T.zip_ (pa_cons (pe_ix ix_tup (pv 0) pe_int (fun _ _ => rfl)) (pa_cons (pe_ix ix_tup (pv 1) pe_int (fun _ _ => rfl)) pa_nil))) (blkOk_by (own := [("_law_pair", 4)]) (N := N_law_stands) (sc := (defScope s_law_stands)) (by decide +kernel)) (fun _ _ _ _ _ => (pg_name (i := 4) sc_law_stands.nd rfl (Or.inl rfl))) (fun _ _ _ _ _ => pts_one (pt_cmpR (kNotInD (K := K) rfl hu65) (pv 4) (pv 2) (by rfl))) (fun _ _ _ _ _ => pe_int)) (pe_lst pa_nil) (nomark _)))) pss_nil) (pss_cons (ps_set (i := 3) sc_law_stands.nd rfl (Or.inl rfl) (pe_lst pa_nil)) (pss_cons (ps_for PassesOwn.never rfl (pi_tup (pe_ifExp (pt_cmpR op_eq (pe_ix ix_tup (pv 0) pe_int (fun _ _ => rfl)) pe_str (nomark _)) (pe_ix ix_tup (pv 0) pe_int (fun _ _ => rfl)) (pe_tup pa_nil))) (pg_name (i := 4) sc_law_stands.nd rfl (Or.inl rfl)) (pss_one (ps_for PassesOwn.never rfl (pi_tup (pe_ix ix_tup (pv 1) pe_int (fun _ _ => rfl))) (pg_name (i := 5) sc_law_stands.nd rfl (Or.inl rfl)) (pss_one (ps_if (PW.pt (pw_and (pt_cmpR (op_inD hu65) (pe_tup (pa_cons (pe_ix ix_tup (pv 4) pe_int (fun _ _ => rfl)) (pa_cons (pe_ix ix_tup (pv 5) pe_int (fun _ _ => rfl)) pa_nil))) (pv 2) (by rfl)) (pw_and1 (pt_cmpR (op_inD hu65) (pe_tup (pa_cons (pe_ix ix_tup (pv 4) pe_int (fun _ _ => rfl)) (pa_cons (pe_ix ix_tup (pv 5) pe_int (fun _ _ => rfl)) pa_nil))) (pv 2) (by rfl))))) (pss_one (ps_expr (pe_bm PySem.F.plainAttrs_list PySem.F.slot_list_append PySem.F.type_list_append mt_append (pv 3) (pa_cons (pe_tup (pa_cons (pv 4) (pa_cons (pv 5) pa_nil))) pa_nil)))) pss_nil))))) (pss_cons (ps_if (pt_cmpR op_eq (pe_ix ix_tup (pv 0) pe_int (fun _ _ => rfl)) pe_str (nomark _)) (pss_one (ps_ret pe_bl)) pss_nil) (pss_cons (ps_asg (pe_tup (pa_cons (pe_lc (own := [("_law_one_here", 8)]) (g := (gName 8)) (tt := tYes) rfl sc_law_stands.nd (pi_list (pv 3)) (blkOk_by (own := [("_law_one_here", 8)]) (N := N_law_stands) (sc := (defScope s_law_stands)) (by decide +kernel)) (fun _ _ _ _ _ => (pg_name (i := 8) sc_law_stands.nd rfl (Or.inl rfl))) (fun _ _ _ _ _ => pts_nil) (fun _ _ _ _ _ => (pe_ix (kIxT (K := K) rfl) (pv 8) pe_int (fun _ _ => rfl)))) (pa_cons (pe_lc (own := [("_law_one_here", 8)]) (g := (gName 8)) (tt := tYes) rfl sc_law_stands.nd (pi_list (pv 3)) (blkOk_by (own := [("_law_one_here", 8)]) (N := N_law_stands) (sc := (defScope s_law_stands)) (by decide +kernel)) (fun _ _ _ _ _ => (pg_name (i := 8) sc_law_stands.nd rfl (Or.inl rfl))) (fun _ _ _ _ _ => pts_nil) (fun _ _ _ _ _ => (pe_ix (kIxT (K := K) rfl) (pv 8) pe_int (fun _ _ => rfl)))) pa_nil))) (pg_tup (by rfl) (pgs_cons (pg_name (i := 6) sc_law_stands.nd rfl (Or.inr rfl)) (pgs_cons (pg_name (i := 7) sc_law_stands.nd rfl (Or.inr rfl)) pgs_nil)))) (pss_cons (ps_if (pt_cmpR (op_neD hr.units) (pe_lc (own := [("_law_pair", 4)]) (g := (gName 4)) rfl sc_law_stands.nd (pi_tup (pe_ix ix_tup (pv 0) pe_int (fun _ _ => rfl))) (blkOk_by (own := [("_law_pair", 4)]) (N := N_law_stands) (sc := (defScope s_law_stands)) (by decide +kernel)) (fun _ _ _ _ _ => (pg_name (i := 4) sc_law_stands.nd rfl (Or.inl rfl))) (fun _ _ _ _ _ => pts_one (pt_cmpR (kNotInD (K := K) rfl hu65) (pv 4) (pv 6) (by rfl))) (fun _ _ _ _ _ => (pv 4))) (pe_lst pa_nil) (nomark _)) (pss_one (ps_ret pe_bl)) pss_nil) (pss_one (ps_ret (pe_cmpR (op_eqD hr.units) (pe_lc (own := [("_law_pair", 4)]) (g := (gName 4)) rfl sc_law_stands.nd (pi_tup (pe_ix ix_tup (pv 1) pe_int (fun _ _ => rfl))) (blkOk_by (own := [("_law_pair", 4)]) (N := N_law_stands) (sc := (defScope s_law_stands)) (by decide +kernel)) (fun _ _ _ _ _ => (pg_name (i := 4) sc_law_stands.nd rfl (Or.inl rfl))) (fun _ _ _ _ _ => pts_one (pt_cmpR (kNotInD (K := K) rfl hu65) (pv 4) (pv 7) (by rfl))) (fun _ _ _ _ _ => (pv 4))) (pe_lst pa_nil) (nomark _))))))))))), ?_⟩
  refine ⟨_, rfl, u, n, rfl, hn, l1, x1, fun H1 v1 k1 f1 => ?_⟩
  refine ⟨_, rfl, v, m, rfl, hm.ext k1.ext0, l2, x2, fun H2 v2 k2 f2 => ?_⟩
  obtain ⟨a1, rfl, f1, _⟩ := f1.ext k2.ext0
  obtain ⟨a2, rfl, f2, _⟩ := f2
  refine ⟨_, _, KeyV.dp _ _ f1, KeyV.dp _ _ f2, shaped_key y1, shaped_key y2, _, rfl, ?_⟩
  rw [dk_eqv]
  have k := k1.trans k2
  unfold standsP at hQ
  by_cases hf : firstKey n = firstKey m
  case neg =>
    rw [decide_eq_false hf] at hQ ⊢
    exact iteT (hQ H2 k)
  rw [decide_eq_true hf] at hQ ⊢
  simp only [Bool.true_and] at hQ
  obtain ⟨a, ct, rfl, ha, hct⟩ := hn.ext k.ext0
  obtain ⟨b, ct2, rfl, hb, hct2⟩ := hm.ext k.ext0
  have hd2 := k.at_ hd
  have hkn2 := pairs_ext k.ext0 hkn
  have kdp : ∀ {H3 : Hp}, Keep [] H2 H3 → Dp K H3 (.ref d) (.list (dkAll (known.map pk))) := fun k3 => dp_pairs (SqL.of (k3.at_ hd2)) (pairs_ext k3.ext0 hkn2)
  refine iteF ?_
  cases n with
  | sc t x =>
    refine ⟨_, rfl, a, _, _, _, rfl, rfl, SqT.of ha, rfl, rfl, _, rfl, iteF ?_⟩
    refine ⟨(by show 0 ≤ sizeLine; decide), fun S hS => ?_⟩
    have kS : Keep [] H2 (upd H2 S (.lst [])) := keep_new hS
    refine ⟨_, rfl, a, _, _, _, rfl, rfl, SqT.of (kS.at_ ha), rfl, rfl, _, rfl, iteF ⟨(by show 0 ≤ sizeLine; decide), fun e0 he0 => ?_⟩⟩
    have ke : Keep [] (upd H2 S (.lst [])) (upd (upd H2 S (.lst [])) e0 (.tup [])) := keep_new he0
    refine ⟨e0, rfl, ⟨_, SqT.of upd_same⟩, ?_⟩
    refine for_it (walk_tup (xs := [])) (fun i σ H3 => H3 = upd (upd H2 S (.lst [])) e0 (.tup []) ∧ ∃ u1 u2, σ = [some (.ref a), some (.ref b), some (.ref d), some (.ref S), u1, u2, none, none, none]) ⟨rfl, _, _, rfl⟩ (fun i σ H3 _ z => by rw [z.1]; exact SqT.of upd_same) (fun i x σ H3 H4 hi => by simp at hi) ?_
    rintro σ H3 ⟨rfl, u1, u2, rfl⟩
    refine ⟨_, rfl, a, _, _, _, rfl, rfl, SqT.of (ke.at_ (kS.at_ ha)), rfl, rfl, _, rfl, iteT ?_⟩
    exact hQ _ ((k.trans kS).trans ke)
  | sq t xs =>
    cases m with
    | sc t' x' => exact absurd (first_kind hf) (by simp only [Nd.kind]; decide +kernel)
    | mp t' es => exact absurd (first_kind hf) (by simp only [Nd.kind]; decide +kernel)
    | sq t' ys =>
      obtain ⟨q, rfl, hx⟩ := hct
      obtain ⟨q2, rfl, hx2⟩ := hct2
      refine ⟨_, rfl, a, _, _, _, rfl, rfl, SqT.of ha, rfl, rfl, _, rfl, iteT ?_⟩
      refine ⟨_, rfl, a, _, _, _, rfl, rfl, SqT.of ha, rfl, _, rfl, b, _, _, _, rfl, rfl, SqT.of hb, rfl, q, q2, _, _, rfl, SqT.of hx, SqT.of hx2, fun D hD => ?_⟩
      have hzl : (xs.zip ys).length = min (xs.map nV).length (ys.map nV).length := by rw [List.length_zip, List.length_map, List.length_map]
      refine lc_it (walk_zipT (xs := xs.map nV) (ys := ys.map nV) (n := (xs.zip ys).length) hzl) (Gath H2 [] J0 D (xs.zip ys) (fun p => if p ∈ known then none else some 1) (fun _ v b => v = nV b)) (gath0 hD trivial) (fun _ H _ p => ⟨SqT.of (p.keep.at_ hx), SqT.of (p.keep.at_ hx2)⟩) ?_ ?_
      · rintro i x H4 H5 hi p ⟨tt, x1, x2, rfl, ht, rfl, e1, e2⟩
        obtain ⟨z1, hz1, rfl⟩ := map_get e1
        obtain ⟨z2, hz2, rfl⟩ := map_get e2
        have kt : Keep [] H4 (upd H4 tt (.tup [nV z1, nV z2])) := keep_new ht
        have ez : (xs.zip ys)[i]? = some (z1, z2) := List.getElem?_zip_eq_some.mpr ⟨hz1, hz2⟩
        have hxl : xs.length ≤ 4 := l1
        refine ⟨rfl, _, rfl, _, rfl, _, _, dp_pair (p := (z1, z2)) upd_same, kdp (p.keep.trans kt), shaped_key (lay_pair _), shaped_keys (fun k hk => by obtain ⟨_, _, rfl⟩ := List.mem_map.mp hk; exact lay_pair _), _, rfl, ?_⟩
        rw [dk_any]
        by_cases hin : (z1, z2) ∈ known
        · rw [decide_eq_true hin]
          exact iteF (p.no gx_flat ez kt trivial (if_pos hin))
        · rw [decide_eq_false hin]
          exact iteT (p.yes gx_flat hD ez (small_line (by rw [List.length_zip]; omega)) kt trivial (if_neg hin) rfl)
      · intro H4 p
        obtain ⟨k4, _, ws, hy, hp⟩ := p.all rfl
        rw [paired_eq hp] at hy
        refine ⟨(by show 0 ≤ sizeLine; decide), fun e0 he0 => ?_⟩
        have ke : Keep [] H4 (upd H4 e0 (.lst [])) := keep_new he0
        refine ⟨_, _, dp_nats (SqL.of (ke.at_ hy)), dp_nats (ns := []) (SqL.of upd_same), dNs_shaped _, dNs_shaped _, ?_⟩
        rw [dNs_eqv]
        have := hQ _ ((k.trans k4).trans ke)
        simp only [] at this
        rw [show ((xs.zip ys).all fun p => decide (p ∈ known)) = decide ((xs.zip ys).filterMap (fun p => if p ∈ known then none else some 1) = []) by
          rw [Bool.eq_iff_iff, decide_eq_true_iff, List.all_eq_true]
          constructor
          · intro h
            refine List.filterMap_eq_nil_iff.mpr fun p hp => ?_
            rw [if_pos (of_decide_eq_true (h p hp))]
          · intro h p hp
            have := List.filterMap_eq_nil_iff.mp h p hp
            by_cases hin : p ∈ known
            · exact decide_eq_true hin
            · rw [if_neg hin] at this; cases this] at this
        exact this
  | mp t es =>
    cases m with
    | sc t' x' => exact absurd (first_kind hf) (by simp only [Nd.kind]; decide +kernel)
    | sq t' es => exact absurd (first_kind hf) (by simp only [Nd.kind]; decide +kernel)
    | mp t' fs =>
      obtain ⟨q, us, rfl, hx, hp⟩ := hct
      obtain ⟨q2, us2, rfl, hx2, hp2⟩ := hct2
      have e1 : us.length = es.length := paired_len hp
      have e2 : us2.length = fs.length := paired_len hp2
      have l1' : es.length ≤ 4 := l1
      have l2' : fs.length ≤ 4 := l2
      have bd : ∀ i, (sAll known (es.take i) fs).length ≤ 16 := fun i => by
        have h1 := sAll_len (known := known) (fs := fs) (es := es.take i)
        have h2 : (es.take i).length * fs.length ≤ 4 * 4 := Nat.mul_le_mul (by rw [List.length_take]; omega) l2'
        omega
      refine ⟨_, rfl, a, _, _, _, rfl, rfl, SqT.of ha, rfl, rfl, _, rfl, iteF ?_⟩
      refine ⟨(by show 0 ≤ sizeLine; decide), fun S hS => ?_⟩
      have kS : Keep [] H2 (upd H2 S (.lst [])) := keep_new hS
      refine ⟨_, rfl, a, _, _, _, rfl, rfl, SqT.of (kS.at_ ha), rfl, rfl, _, rfl, iteT ⟨_, rfl, a, _, _, _, rfl, rfl, SqT.of (kS.at_ ha), rfl, q, rfl, ⟨_, SqT.of (kS.at_ hx)⟩, ?_⟩⟩
      refine for_it (walk_tup (xs := us)) (fun i σ H3 => Keep [] H2 H3 ∧ (∃ ws, H3 S = some (.lst ws) ∧ Paired (PP H3) ws (sAll known (es.take i) fs)) ∧ ∃ u1 u2, σ = [some (.ref a), some (.ref b), some (.ref d), some (.ref S), u1, u2, none, none, none])
        ⟨kS, ⟨[], upd_same, .nil⟩, _, _, rfl⟩ (fun i σ H3 _ z => SqT.of (z.1.at_ hx)) ?_ ?_
      · rintro i x σ H3 H4 hi ⟨k3, ⟨ws, hws, hpw⟩, u1, u2, rfl⟩ ⟨rfl, ex⟩
        obtain ⟨e, he, te, rfl, hte⟩ := paired_get hp ex
        refine ⟨_, rfl, b, _, _, _, rfl, rfl, SqT.of (k3.at_ hb), rfl, q2, rfl, ⟨_, SqT.of (k3.at_ hx2)⟩, ?_⟩
        refine for_it (walk_tup (xs := us2)) (fun j σ H5 => Keep [] H2 H5 ∧ (∃ ws, H5 S = some (.lst ws) ∧ Paired (PP H5) ws (sAll known (es.take i) fs ++ sRow known (fs.take j) e)) ∧ ∃ u2, σ = [some (.ref a), some (.ref b), some (.ref d), some (.ref S), some (.ref te), u2, none, none, none])
          ⟨k3, ⟨ws, hws, by simpa [sRow] using hpw⟩, _, rfl⟩ (fun i σ H3 _ z => SqT.of (z.1.at_ hx2)) ?_ ?_
        · rintro j y σ H5 H6 hj ⟨k5, ⟨ws5, hws5, hpw5⟩, u3, rfl⟩ ⟨rfl, ey⟩
          obtain ⟨g, hg, tg, rfl, htg⟩ := paired_get hp2 ey
          have hte5 := k5.at_ hte
          have htg5 := k5.at_ htg
          have et : sRow known (fs.take (j + 1)) e = sRow known (fs.take j) e ++ if fitE known e g = true then [(e, g)] else [] := by rw [take_snoc hg, sRow_snoc]
          refine ⟨_, rfl, te, _, _, _, rfl, rfl, SqT.of hte5, rfl, _, rfl, tg, _, _, _, rfl, rfl, SqT.of htg5, rfl, (by show 2 ≤ sizeLine; decide), fun t1 ht1 => ?_⟩
          have kt1 : Keep [] H6 (upd H6 t1 (.tup [nV e.1, nV g.1])) := keep_new ht1
          refine ⟨_, rfl, _, _, dp_pair (p := (e.1, g.1)) upd_same, kdp (k5.trans kt1), shaped_key (lay_pair _), shaped_keys (fun k hk => by obtain ⟨_, _, rfl⟩ := List.mem_map.mp hk; exact lay_pair _), _, rfl, ?_⟩
          rw [dk_any]
          have k7 := k5.trans kt1
          generalize upd H6 t1 (.tup [nV e.1, nV g.1]) = H7 at *
          have no : ∀ (H8 : Hp), Keep [] H6 H8 → fitE known e g = false → Keep [] H2 H8 ∧ (∃ ws, H8 S = some (.lst ws) ∧ Paired (PP H8) ws (sAll known (es.take i) fs ++ sRow known (fs.take (j + 1)) e)) := fun H8 k8 hfit => by
            refine ⟨k5.trans k8, ws5, k8.at_ hws5, ?_⟩
            rw [et, hfit]
            simpa using Paired.mapP hpw5 fun _ _ z => z.ext k8.ext0
          by_cases h1 : (e.1, g.1) ∈ known
          · rw [decide_eq_true h1]
            refine iteT ⟨_, rfl, te, _, _, _, rfl, rfl, SqT.of (kt1.at_ hte5), rfl, _, rfl, tg, _, _, _, rfl, rfl, SqT.of (kt1.at_ htg5), rfl, (by show 2 ≤ sizeLine; decide), fun t2 ht2 => ?_⟩
            have kt2 : Keep [] H7 (upd H7 t2 (.tup [nV e.2, nV g.2])) := keep_new ht2
            refine ⟨_, rfl, _, _, dp_pair (p := (e.2, g.2)) upd_same, kdp (k7.trans kt2), shaped_key (lay_pair _), shaped_keys (fun k hk => by obtain ⟨_, _, rfl⟩ := List.mem_map.mp hk; exact lay_pair _), _, rfl, ?_⟩
            rw [dk_any]
            have k8 := kt1.trans kt2
            generalize upd H7 t2 (.tup [nV e.2, nV g.2]) = H8 at *
            by_cases h2 : (e.2, g.2) ∈ known
            · rw [decide_eq_true h2]
              have hfit : fitE known e g = true := by unfold fitE; rw [decide_eq_true h1, decide_eq_true h2]; rfl
              refine iteT ⟨_, rfl, .inl ⟨rfl, _, SqL.of (k8.at_ hws5)⟩, _, rfl, _, rfl, (by show 2 ≤ sizeLine; decide), fun t3 ht3 => ?_⟩
              have kt3 : Keep [] H8 (upd H8 t3 (.tup [.ref te, .ref tg])) := keep_new ht3
              have hS9 := kt3.at_ (k8.at_ hws5)
              have e9 : Ext (upd H8 t3 (.tup [.ref te, .ref tg])) (upd (upd H8 t3 (.tup [.ref te, .ref tg])) S (.lst (ws5 ++ [.ref t3]))) := ext_updl hS9 (by intro xs z; cases z)
              have lw := paired_len hpw5
              have lb := bd i
              have lr := sRow_len (known := known) (fs := fs.take j) (e := e)
              rw [List.length_append] at lw
              rw [List.length_take] at lr
              refine ⟨S, ws5, _, rfl, rfl, hS9, small_line (by omega), ((k5.trans k8).trans kt3).upd0 hS, ⟨_, upd_same, ?_⟩, _, rfl⟩
              rw [et, hfit, if_pos rfl, ← List.append_assoc]
              have eA := (k8.ext0.trans kt3.ext0).trans e9
              refine paired_app ?_ (Paired.mapP hpw5 fun _ _ z => z.ext eA)
              exact PP.ext e9 ⟨t3, _, _, rfl, upd_same, ⟨te, rfl, kt3.at_ (k8.at_ hte5)⟩, ⟨tg, rfl, kt3.at_ (k8.at_ htg5)⟩⟩
            · rw [decide_eq_false h2]
              obtain ⟨z1, z2⟩ := no H8 k8 (by unfold fitE; rw [decide_eq_false h2, Bool.and_false])
              exact iteF ⟨z1, z2, _, rfl⟩
          · rw [decide_eq_false h1]
            obtain ⟨z1, z2⟩ := no H7 kt1 (by unfold fitE; rw [decide_eq_false h1, Bool.false_and])
            exact iteF ⟨z1, z2, _, rfl⟩
        · rintro σ H5 ⟨k5, ⟨ws5, hws5, hpw5⟩, u3, rfl⟩
          refine ⟨k5, ⟨ws5, hws5, ?_⟩, _, _, rfl⟩
          rw [show fs.take us2.length = fs from List.take_of_length_le (by omega)] at hpw5
          unfold sAll at hpw5 ⊢
          rw [take_snoc he, flat_snoc]
          exact hpw5
      rintro σ H3 ⟨k3, ⟨ws, hws, hpw⟩, u1, u2, rfl⟩
      have lb := bd us.length
      rw [show es.take us.length = es from List.take_of_length_le (by omega)] at hpw lb
      have wl := paired_len hpw
      refine ⟨_, rfl, a, _, _, _, rfl, rfl, SqT.of (k3.at_ ha), rfl, rfl, _, rfl, iteF ?_⟩
      have wlk : ∀ {H9 : Hp}, Keep [] H3 H9 → ∀ {i : Nat} {x : V}, ws[i]? = some x → ∃ p, (sAll known es fs)[i]? = some p ∧ PP H9 x p := fun k9 i x h => by
        obtain ⟨p, h1, h2⟩ := paired_get hpw h
        exact ⟨p, h1, h2.ext k9.ext0⟩
      refine ⟨_, rfl, S, rfl, ⟨_, SqL.of hws⟩, fun D1 hD1 => ?_⟩
      refine lc_it (walk_list (xs := ws)) (Gath H3 [] J0 D1 (sAll known es fs) (fun p => some p.1) PairV) (gath0 hD1 trivial) (fun _ H _ p => SqL.of (p.keep.at_ hws)) ?_ ?_
      · rintro i x H4 H5 hi p ⟨rfl, ex⟩
        obtain ⟨pp, hpp, t, u1, u2, rfl, ht, hu1, hu2⟩ := wlk p.keep ex
        refine ⟨rfl, yes_ ?_⟩
        refine ⟨_, rfl, t, _, _, _, rfl, rfl, SqT.of ht, rfl, ?_⟩
        exact p.yes (gx0 fun H H' v b k e h => h.ext e) hD1 hpp (small_line (by omega)) (Keep.refl _ _) trivial rfl hu1
      intro H4 pA
      obtain ⟨k4, _, ys1, hy1, hq1⟩ := pA.all wl
      rw [fm_some] at hq1
      refine ⟨_, rfl, S, rfl, ⟨_, SqL.of (k4.at_ hws)⟩, fun D2 hD2 => ?_⟩
      refine lc_it (walk_list (xs := ws)) (Gath H4 [] J0 D2 (sAll known es fs) (fun p => some p.2) PairV) (gath0 hD2 trivial) (fun _ H _ p => SqL.of (p.keep.at_ (k4.at_ hws))) ?_ ?_
      · rintro i x H5 H6 hi p ⟨rfl, ex⟩
        obtain ⟨pp, hpp, t, u1, u2, rfl, ht, hu1, hu2⟩ := wlk (k4.trans p.keep) ex
        refine ⟨rfl, yes_ ?_⟩
        refine ⟨_, rfl, t, _, _, _, rfl, rfl, SqT.of ht, rfl, ?_⟩
        exact p.yes (gx0 fun H H' v b k e h => h.ext e) hD2 hpp (small_line (by omega)) (Keep.refl _ _) trivial rfl hu2
      intro H5 pB
      obtain ⟨k5, _, ys2, hy2, hq2⟩ := pB.all wl
      rw [fm_some] at hq2
      refine ⟨(by show 2 ≤ sizeLine; decide), fun tp htp => ?_⟩
      have ktp : Keep [] H5 (upd H5 tp (.tup [.ref D1, .ref D2])) := keep_new htp
      have k35 := (k4.trans k5).trans ktp
      have hy1' := ktp.at_ (k5.at_ hy1)
      have hy2' := ktp.at_ hy2
      have hq1' := pairs_ext (k5.ext0.trans ktp.ext0) hq1
      have hq2' := pairs_ext ktp.ext0 hq2
      have htp' : upd H5 tp (.tup [.ref D1, .ref D2]) tp = some (.tup [.ref D1, .ref D2]) := upd_same
      generalize upd H5 tp (.tup [.ref D1, .ref D2]) = H6 at *
      refine ⟨tp, _, rfl, SqT.of htp', rfl, _, _, rfl, _, _, rfl, rfl, ?_⟩
      have k36 := k3.trans k35
      -- one side's pairs that are left out
      refine ⟨_, rfl, a, _, _, _, rfl, rfl, SqT.of (k36.at_ ha), rfl, q, rfl, ⟨_, SqT.of (k36.at_ hx)⟩, fun D3 hD3 => ?_⟩
      refine lc_it (walk_tup (xs := us)) (Gath H6 [] J0 D3 es (fun e => if e ∈ (sAll known es fs).map (·.1) then none else some e) PairV) (gath0 hD3 trivial) (fun _ H _ p => SqT.of (p.keep.at_ (k36.at_ hx))) ?_ ?_
      · rintro i x H7 H8 hi p ⟨rfl, ex⟩
        obtain ⟨e, he, pv⟩ := paired_get hp ex
        have pv7 := pv.ext (k36.trans p.keep).ext0
        refine ⟨rfl, _, rfl, _, rfl, _, _, KeyV.dp _ _ (pairV_key pv7), dp_pairs (SqL.of (p.keep.at_ hy1')) (pairs_ext p.keep.ext0 hq1'), shaped_key (lay_pair _), dPs_shaped _, _, rfl, ?_⟩
        rw [dk_any]
        by_cases hin : e ∈ (sAll known es fs).map (·.1)
        · rw [decide_eq_true hin]
          exact iteF (p.no (gx0 fun H H' v b k e h => h.ext e) he (Keep.refl _ _) trivial (if_pos hin))
        · rw [decide_eq_false hin]
          refine iteT ⟨_, rfl, ?_⟩
          exact p.yes (gx0 fun H H' v b k e h => h.ext e) hD3 he (small_line (by omega)) (Keep.refl _ _) trivial (if_neg hin) pv7
      intro H7 p3
      obtain ⟨k7, _, ys3, hy3, hq3⟩ := p3.all e1
      refine ⟨(by show 0 ≤ sizeLine; decide), fun e0 he0 => ?_⟩
      have ke : Keep [] H7 (upd H7 e0 (.lst [])) := keep_new he0
      refine ⟨_, _, dp_pairs (SqL.of (ke.at_ hy3)) (pairs_ext ke.ext0 hq3), dp_pairs (ps := []) (SqL.of upd_same) .nil, dPs_shaped _, dPs_shaped _, _, rfl, ?_⟩
      rw [dPs_eqv]
      have k67 := k7.trans ke
      have hfin : ∀ H', Keep [] H2 H' → Q (.bl (decide ((es.filterMap fun e => if e ∈ (sAll known es fs).map (·.1) then none else some e) = []) && decide ((fs.filterMap fun e => if e ∈ (sAll known es fs).map (·.2) then none else some e) = []))) H' := fun H' k' => by
        have := hQ H' (k.trans k')
        simp only [] at this
        rw [show ((es.all fun e => fs.any fun f => fitE known e f) && fs.all fun f => es.any fun e => fitE known e f) = (decide ((es.filterMap fun e => if e ∈ (sAll known es fs).map (·.1) then none else some e) = []) && decide ((fs.filterMap fun e => if e ∈ (sAll known es fs).map (·.2) then none else some e) = [])) by
          rw [Bool.eq_iff_iff, Bool.and_eq_true, Bool.and_eq_true, decide_eq_true_iff, decide_eq_true_iff, left_out, left_out, List.all_eq_true, List.all_eq_true]
          refine and_congr (forall_congr' fun e => forall_congr' fun he => ?_) (forall_congr' fun g => forall_congr' fun hg => ?_)
          · rw [List.any_eq_true, List.mem_map]
            constructor
            · rintro ⟨g, h1, h2⟩
              exact ⟨(e, g), mem_sAll.mpr ⟨he, h1, h2⟩, rfl⟩
            · rintro ⟨⟨e', g⟩, h1, h2⟩
              obtain ⟨_, h4, h5⟩ := mem_sAll.mp h1
              have h2 : e' = e := h2
              subst h2
              exact ⟨g, h4, h5⟩
          · rw [List.any_eq_true, List.mem_map]
            constructor
            · rintro ⟨e, h1, h2⟩
              exact ⟨(e, g), mem_sAll.mpr ⟨h1, hg, h2⟩, rfl⟩
            · rintro ⟨⟨e, g'⟩, h1, h2⟩
              obtain ⟨h3, _, h5⟩ := mem_sAll.mp h1
              have h2 : g' = g := h2
              subst h2
              exact ⟨e, h3, h5⟩] at this
        exact this
      generalize upd H7 e0 (.lst []) = H8 at *
      have k28 := k36.trans k67
      by_cases hA : (es.filterMap fun e => if e ∈ (sAll known es fs).map (·.1) then none else some e) = []
      case neg =>
        have := hfin H8 k28
        rw [decide_eq_false hA] at this ⊢
        exact iteT this
      rw [decide_eq_true hA] at hfin ⊢
      refine iteF ?_
      refine ⟨_, rfl, b, _, _, _, rfl, rfl, SqT.of (k28.at_ hb), rfl, q2, rfl, ⟨_, SqT.of (k28.at_ hx2)⟩, fun D4 hD4 => ?_⟩
      refine lc_it (walk_tup (xs := us2)) (Gath H8 [] J0 D4 fs (fun e => if e ∈ (sAll known es fs).map (·.2) then none else some e) PairV) (gath0 hD4 trivial) (fun _ H _ p => SqT.of (p.keep.at_ (k28.at_ hx2))) ?_ ?_
      · rintro i x H9 H10 hi p ⟨rfl, ex⟩
        obtain ⟨e, he, pv⟩ := paired_get hp2 ex
        have pv7 := pv.ext (k28.trans p.keep).ext0
        refine ⟨rfl, _, rfl, _, rfl, _, _, KeyV.dp _ _ (pairV_key pv7), dp_pairs (SqL.of (p.keep.at_ (k67.at_ hy2'))) (pairs_ext (k67.ext0.trans p.keep.ext0) hq2'), shaped_key (lay_pair _), dPs_shaped _, _, rfl, ?_⟩
        rw [dk_any]
        by_cases hin : e ∈ (sAll known es fs).map (·.2)
        · rw [decide_eq_true hin]
          exact iteF (p.no (gx0 fun H H' v b k e h => h.ext e) he (Keep.refl _ _) trivial (if_pos hin))
        · rw [decide_eq_false hin]
          refine iteT ⟨_, rfl, ?_⟩
          exact p.yes (gx0 fun H H' v b k e h => h.ext e) hD4 he (small_line (by omega)) (Keep.refl _ _) trivial (if_neg hin) pv7
      intro H9 p4
      obtain ⟨k9, _, ys4, hy4, hq4⟩ := p4.all e2
      refine ⟨(by show 0 ≤ sizeLine; decide), fun e3 he3 => ?_⟩
      have ke3 : Keep [] H9 (upd H9 e3 (.lst [])) := keep_new he3
      refine ⟨_, _, dp_pairs (SqL.of (ke3.at_ hy4)) (pairs_ext ke3.ext0 hq4), dp_pairs (ps := []) (SqL.of upd_same) .nil, dPs_shaped _, dPs_shaped _, ?_⟩
      rw [dPs_eqv]
      have := hfin _ ((k28.trans k9).trans ke3)
      rw [Bool.true_and] at this
      exact this
end
end Ap
set_option Elab.async false
set_option linter.all false
set_option maxRecDepth 100000
set_option maxHeartbeats 4000000
namespace Ap
open PySem PySem.Spec PyProof.Rows L2
abbrev N_law_due : List Str := ["_law_nodes_here", "_law_top", "_law_others", "_law_its_top", "_law_paper", "_law_known", "_law_seen", "_law_index", "_law_pair"]
theorem sc_law_due : FnScope N_law_due ["_law_nodes_here", "_law_top", "_law_others", "_law_its_top", "_law_paper"] (defScope s_law_due) := ⟨rfl, rfl, rfl, by decide +kernel, rfl, by decide +kernel, by decide +kernel⟩

/-- nodes as the law compares them -/
def NsTx (ns : List Nd) : Prop := ∀ n ∈ ns, n.len ≤ 4 ∧ TxtOk n ∧ Lay n
def spDue (C : Addr) : Sp := fun vs H Q _ => ∃ (a b : Addr) (us us2 : List V) (ns ms : List Nd) (n m : Nat) (q : Addr) (l : Bool) (ws : List V) (ppr : Ppr), vs = [.ref a, nV n, .ref b, nV m, .ref q] ∧ H a = some (.lst us) ∧ H b = some (.lst us2) ∧ Paired (NdV H) us ns ∧ Paired (NdV H) us2 ms ∧ NsTx ns ∧ NsTx ms ∧
  H q = some (qO l ws) ∧ Paired (ElV C ns.length ms.length H) ws ppr ∧ ppr.length ≤ 10000 ∧ ∀ H', Keep [] H H' → Q (jV (judge ns ms n m ppr)) H'
section
variable {P : Program} {w : World} {K : PySem.W.Frag} {mg : Str → Option Value} {base : Heap}
theorem w_law_due {C : Addr} (T : Txt K mg) (GG : GC K mg C) (c_law_is_pair : Cl P w K mg base 1 "_law_is_pair" (spLIsPair C)) (c_law_stands : Cl P w K mg base 2 "_law_stands" spLStands)
    (D : Dn K mg "_law_due" s_law_due) : Cl P w K mg base 3 "_law_due" (spDue C) := by
  refine cl_of D sc_law_due (fun vs H Q E h => ?_) (fun _ _ _ _ _ _ us hl => match us, hl with | [_, _, _, _, _], _ => rfl) fun f cdv A outer s H vs Q E hr h => ?_
  · obtain ⟨a, b, us, us2, ns, ms, n, m, q, l, ws, ppr, rfl, _⟩ := h
    rfl
  obtain ⟨a, b, us, us2, ns, ms, n, m, q, l, ws, ppr, rfl, ha, hb, hpn, hpm, y1, y2, hq, hp, hl, hQ⟩ := h
  have hu65 : (A.deeper (envOfC "_law_due" (defScope s_law_due) s.heap.objs.size f cdv)).units + 65 < cLine := by have := hr.un; omega
  have ul1 : us.length = ns.length := paired_len hpn
  have ul2 : us2.length = ms.length := paired_len hpm
  have ul : ws.length = ppr.length := paired_len hp
  refine ⟨_, PSs.nox (pss_cons (ps_if (pt_not (pt_val (pe_callB call_isiT (by rfl) T.isi_ PyProof.Rows.boot_isinstance (pa_cons (pv 4) (pa_cons (pe_tup (pa_cons (pe_bltn (v := .ty "list") (by rfl) T.list_ PyProof.Rows.boot_list rfl) (pa_cons (pe_bltn (v := .ty "tuple") (by rfl) T.tuple_ PyProof.Rows.boot_tuple rfl) pa_nil))) pa_nil))))) (pss_one (ps_ret (pe_op op_sub pe_int pe_int))) pss_nil) (pss_cons (ps_par (by rfl) sc_law_due.nd (i := 5) (j := 6) rfl rfl (by decide) rfl rfl (pa_cons (pe_lc (own := [("_law_pair", 8)]) (g := (gName 8)) rfl sc_law_due.nd (pi_seqA (pv 4)) (blkOk_by (own := [("_law_pair", 8)]) (N := N_law_due) (sc := (defScope s_law_due)) (by decide +kernel)) (fun _ _ _ _ _ => (pg_name (i := 8) sc_law_due.nd rfl (Or.inl rfl))) (fun _ _ _ _ _ => pts_one (pt_val (pe_cl c_law_is_pair hr (by decide) rfl (pa_cons (pv 8) (pa_cons (pv 0) (pa_cons (pv 2) pa_nil)))))) (fun _ _ _ _ _ => (pv 8))) (pa_cons (pe_lst pa_nil) pa_nil)) (by rfl)) (pss_cons (ps_for PassesOwn.never rfl (pi_enumS (by rfl) T.enum_ (pa_cons (pv 4) pa_nil)) (pg_tup (by rfl) (pgs_cons (pg_name (i := 7) sc_law_due.nd rfl (Or.inl rfl)) (pgs_cons (pg_name (i := 8) sc_law_due.nd rfl (Or.inl rfl)) pgs_nil))) (pss_cons (ps_if (PW.pt (pw_or (pt_not (pt_val (pe_cl c_law_is_pair hr (by decide) rfl (pa_cons (pv 8) (pa_cons (pv 0) (pa_cons (pv 2) pa_nil)))))) (pw_or1 (pt_cmpR (op_inD hu65) (pv 8) (pv 6) (by rfl))))) (pss_one (ps_ret (pv 7))) pss_nil) (pss_cons (ps_if (pt_not (pt_val (pe_cl c_law_stands hr (by decide) rfl (pa_cons (pe_ix ix_list (pv 0) (pe_ix ix_tup (pv 8) pe_int (fun _ _ => rfl)) (fun _ _ => rfl)) (pa_cons (pe_ix ix_list (pv 2) (pe_ix ix_tup (pv 8) pe_int (fun _ _ => rfl)) (fun _ _ => rfl)) (pa_cons (pv 5) pa_nil)))))) (pss_one (ps_ret (pv 7))) pss_nil) (pss_one (ps_expr (pe_bm PySem.F.plainAttrs_list PySem.F.slot_list_append PySem.F.type_list_append mt_append (pv 6) (pa_cons (pv 8) pa_nil))))))) (pss_one (ps_ret (pe_ifExp (pt_cmpR (op_inD hu65) (pe_tup (pa_cons (pv 1) (pa_cons (pv 3) pa_nil))) (pv 5) (by rfl)) pe_non (pe_callB call_len (by rfl) T.len_ PySem.boot_len (pa_cons (pv 4) pa_nil)))))))), ?_⟩
  refine ⟨_, rfl, (by show 2 ≤ sizeLine; decide), fun tp htp => ?_⟩
  have k2 : Keep [] H (upd H tp (.tup [.ty "list", .ty "tuple"])) := keep_new htp
  have htup : upd H tp (.tup [.ty "list", .ty "tuple"]) tp = some (.tup [.ty "list", .ty "tuple"]) := upd_same
  generalize upd H tp (.tup [.ty "list", .ty "tuple"]) = H2 at *
  have hq2 := k2.at_ hq
  have hp2 := els_keep k2 hp
  refine ⟨.ref q, tp, _, _, [.type "list", .type "tuple"], true, rfl, htup, .cons (.ty _) (.cons (.ty _) .nil), ty_seq hq2, kit_seq l, _, rfl, iteF ?_⟩
  refine ⟨_, rfl, q, ws, l, rfl, Sq.of hq2, fun Kd hKd => ?_⟩
  refine lc_it (walk_seq (xs := ws)) (Gath H2 [] J0 Kd ppr id PairV) (gath0 hKd trivial) (fun _ H _ p => Sq.of (p.keep.at_ hq2)) ?_ ?_
  · rintro i x H3 H4 hi p ⟨rfl, e⟩
    obtain ⟨o, ho, he⟩ := paired_get hp2 e
    have k23 := k2.trans p.keep
    have he3 := he.keep p.keep
    refine ⟨rfl, _, rfl, _, rfl, _, rfl, x, a, b, us, us2, o, rfl, k23.at_ ha, k23.at_ hb, by rw [ul1, ul2]; exact he3, fun H5 k5 => ⟨_, rfl, ?_⟩⟩
    cases o with
    | none => exact iteF (p.no (gx0 fun H H' v b k e h => h.ext e) ho k5 trivial rfl)
    | some pr => exact iteT ⟨_, rfl, p.yes (gx0 fun H H' v b k e h => h.ext e) hKd ho (small_line (by omega)) k5 trivial rfl ((he3.keep k5).1)⟩
  intro H3 p
  obtain ⟨k3, _, kws, hkv, hkp⟩ := p.all ul
  refine ⟨(by show 0 ≤ sizeLine; decide), fun Sd hSd => ⟨_, _, rfl, ?_⟩⟩
  have kS : Keep [] H3 (upd H3 Sd (.lst [])) := keep_new hSd
  have k23 := k2.trans k3
  have hpl : (ppr.drop ppr.length) = [] := List.drop_length
  have kdp : ∀ {H4 : Hp}, Keep [] H3 H4 → Dp K H4 (.ref Kd) (.list (dkAll ((knownOf ppr).map pk))) := fun k4 => dp_pairs (SqL.of (k4.at_ hkv)) (pairs_ext k4.ext0 hkp)
  refine ⟨_, rfl, q, ws, l, rfl, Sq.of ((k3.trans kS).at_ hq2), ?_⟩
  refine for_it (walk_enumS (xs := ws)) (fun i σ H4 => Keep [] H3 H4 ∧ (∃ seen sw, H4 Sd = some (.lst sw) ∧ Paired (PairV H4) sw seen ∧ seen.length ≤ i ∧ judgeGo ns ms (knownOf ppr) 0 [] ppr = judgeGo ns ms (knownOf ppr) i seen (ppr.drop i)) ∧ ∃ u1 u2, σ = [some (.ref a), some (nV n), some (.ref b), some (nV m), some (.ref q), some (.ref Kd), some (.ref Sd), u1, u2])
    ⟨kS, ⟨[], [], upd_same, .nil, Nat.le_refl _, rfl⟩, _, _, rfl⟩ (fun i σ H4 _ z => Sq.of (z.1.at_ (k3.at_ hq2))) ?_ ?_
  · rintro i v σ H4 H5 hi ⟨k4, ⟨seen, sw, hsw, hse, hsl, hjg⟩, u1, u2, rfl⟩ ⟨tt, x1, x2, rfl, ht, rfl, e1, e2⟩
    cases Option.some.inj e1
    obtain ⟨o, ho, he⟩ := paired_get hp e2
    have hi' : i < ppr.length := by omega
    have hdr : ppr.drop i = o :: ppr.drop (i + 1) := by
      rw [List.drop_eq_getElem_cons hi']
      rw [List.getElem?_eq_getElem hi'] at ho
      rw [Option.some.inj ho]
    rw [hdr] at hjg
    have kt : Keep [] H4 (upd H4 tt (.tup [.int (i : Nat), x2])) := keep_new ht
    have k5 := (k23.trans k4).trans kt
    have htt : upd H4 tt (.tup [.int (i : Nat), x2]) tt = some (.tup [.int (i : Nat), x2]) := upd_same
    generalize upd H4 tt (.tup [.int (i : Nat), x2]) = H5 at *
    have hjd : ∀ b, judgeGo ns ms (knownOf ppr) 0 [] ppr = some b → judge ns ms n m ppr = some b := fun b z => by
      unfold judge
      rw [z]
    refine ⟨tt, _, rfl, SqT.of htt, rfl, _, _, rfl, _, _, rfl, rfl, ?_⟩
    refine ⟨_, rfl, _, rfl, _, rfl, x2, a, b, us, us2, o, rfl, k5.at_ ha, k5.at_ hb, by rw [ul1, ul2]; exact he.keep k5, fun H6 k6 => ⟨_, rfl, ?_⟩⟩
    have k7 := k5.trans k6
    have k37 := (k4.trans kt).trans k6
    have ret : ∀ {H7 : Hp}, Keep [] H H7 → judgeGo ns ms (knownOf ppr) 0 [] ppr = some i → Q (nV i) H7 := fun kk z => by
      have := hQ _ kk
      rw [hjd i z] at this
      exact this
    cases o with
    | none =>
      refine iteT (iteT ⟨_, rfl, ret k7 ?_⟩)
      rw [hjg]
      rfl
    | some pr =>
      obtain ⟨i1, i2⟩ := pr
      obtain ⟨hpv, r1, r2⟩ := he.keep k7
      have r1 : i1 < ns.length := r1
      have r2 : i2 < ms.length := r2
      have hse6 := pairs_ext (kt.ext0.trans k6.ext0) hse
      have hsw6 := k6.at_ (kt.at_ hsw)
      obtain ⟨tp2, rfl, htp2⟩ := hpv
      refine iteF ⟨_, rfl, _, rfl, _, _, dp_pair (p := (i1, i2)) htp2, dp_pairs (SqL.of hsw6) hse6, shaped_key (lay_pair _), dPs_shaped _, _, rfl, ?_⟩
      rw [dk_any]
      rw [judgeGo_some] at hjg
      by_cases hin : (i1, i2) ∈ seen
      · rw [decide_eq_true hin]
        rw [if_pos hin] at hjg
        exact iteT ⟨_, rfl, ret k7 hjg⟩
      · rw [decide_eq_false hin]
        rw [if_neg hin] at hjg
        have q3 := nds_ext k7.ext0 hpn
        have q6 := nds_ext k7.ext0 hpm
        obtain ⟨u1', hu1, hn1⟩ := paired_get' q3 (ndAt_get r1)
        obtain ⟨u2', hu2, hn2⟩ := paired_get' q6 (ndAt_get r2)
        have m1 := List.mem_of_getElem? (ndAt_get r1)
        have m2 := List.mem_of_getElem? (ndAt_get r2)
        refine iteF ?_
        refine ⟨_, rfl, _, rfl, tp2, _, _, _, rfl, rfl, SqT.of htp2, rfl, a, us, _, _, rfl, rfl, SqL.of (k7.at_ ha), atI_nat hu1, ?_⟩
        refine ⟨_, rfl, _, rfl, tp2, _, _, _, rfl, rfl, SqT.of htp2, rfl, b, us2, _, _, rfl, rfl, SqL.of (k7.at_ hb), atI_nat hu2, ?_⟩
        refine ⟨_, rfl, u1', u2', ndAt ns i1, ndAt ms i2, Kd, kws, knownOf ppr, rfl, hn1, hn2, (y1 _ m1).1, (y2 _ m2).1, (y1 _ m1).2.1, (y2 _ m2).2.1, (y1 _ m1).2.2, (y2 _ m2).2.2, k37.at_ hkv, pairs_ext k37.ext0 hkp, fun H8 k8 => ⟨_, rfl, ?_⟩⟩
        by_cases hst : standsP (knownOf ppr) (ndAt ns i1) (ndAt ms i2) = true
        · rw [hst]
          rw [if_pos hst] at hjg
          have hsw8 := k8.at_ hsw6
          have swl := paired_len hse
          have e8 : Ext H8 (upd H8 Sd (.lst (sw ++ [.ref tp2]))) := ext_updl hsw8 (by intro xs z; cases z)
          refine iteF ⟨_, rfl, .inl ⟨rfl, _, SqL.of hsw8⟩, _, rfl, Sd, sw, _, rfl, rfl, hsw8, small_line (by omega), ?_⟩
          exact ⟨(k37.trans k8).upd0 hSd, ⟨seen ++ [(i1, i2)], _, upd_same, paired_app ⟨tp2, rfl, e8 _ _ (k8.at_ htp2)⟩ (pairs_ext e8 (pairs_ext k8.ext0 hse6)), by rw [List.length_append, List.length_singleton]; omega, hjg⟩, _, _, rfl⟩
        · rw [if_neg hst] at hjg
          rw [Bool.not_eq_true] at hst
          rw [hst]
          exact iteT ⟨_, rfl, ret (k7.trans k8) hjg⟩
  · rintro σ H4 ⟨k4, ⟨seen, sw, hsw, hse, hsl, hjg⟩, u1, u2, rfl⟩
    rw [ul, hpl] at hjg
    have hjn : judgeGo ns ms (knownOf ppr) 0 [] ppr = none := hjg
    have k5 := k23.trans k4
    refine ⟨_, rfl, _, rfl, (by show 2 ≤ sizeLine; decide), fun tk htk => ?_⟩
    have kk : Keep [] H4 (upd H4 tk (.tup [nV n, nV m])) := keep_new htk
    refine ⟨_, rfl, _, _, dp_pair (p := (n, m)) upd_same, kdp (k4.trans kk), shaped_key (lay_pair _), dPs_shaped _, _, rfl, ?_⟩
    rw [dk_any]
    have hr := hQ _ (k5.trans kk)
    unfold judge at hr
    rw [hjn] at hr
    simp only [] at hr
    by_cases hin : (n, m) ∈ knownOf ppr
    · rw [if_pos hin] at hr
      rw [decide_eq_true hin]
      exact iteT hr
    · rw [if_neg hin] at hr
      rw [decide_eq_false hin]
      refine iteF ⟨_, rfl, _, ws.length, rfl, lenS (kk.at_ (k5.at_ hq)), ?_⟩
      rw [ul]
      exact hr
end
end Ap
set_option Elab.async false
set_option linter.all false
set_option maxRecDepth 100000
set_option maxHeartbeats 4000000
namespace Ap
open PySem PySem.Spec PyProof.Rows L2
abbrev N_law_go_on : List Str := ["_law_one_here", "_law_other", "_law_now", "_law_mine", "_law_its", "_law_key", "_law_value", "_law_pair"]
theorem sc_law_go_on : FnScope N_law_go_on ["_law_one_here", "_law_other", "_law_now"] (defScope s_law_go_on) := ⟨rfl, rfl, rfl, by decide +kernel, rfl, by decide +kernel, by decide +kernel⟩

/-- a row of truth values -/
def RW (H : Hp) (v : V) (bs : List Bool) : Prop := ∃ a, v = .ref a ∧ H a = some (.lst (bs.map V.bl))
theorem RW.keep {H H' : Hp} {v : V} {bs : List Bool} (k : Keep [] H H') (h : RW H v bs) : RW H' v bs := by
  obtain ⟨a, h1, h2⟩ := h
  exact ⟨a, h1, k.at_ h2⟩
/-- a square of truth values at l -/
def MatH (N : Nat) (H : Hp) (l : Addr) (M : List (List Bool)) : Prop := ∃ rows, H l = some (.lst rows) ∧ Paired (RW H) rows M ∧ M.length = N ∧ ∀ r ∈ M, r.length = N
theorem MatH.keep {N : Nat} {H H' : Hp} {l : Addr} {M : List (List Bool)} (k : Keep [] H H') (h : MatH N H l M) : MatH N H' l M := by
  obtain ⟨rows, h1, h2, h3⟩ := h
  exact ⟨rows, k.at_ h1, Paired.mapP h2 fun _ _ z => z.keep k, h3⟩
def mb (M : List (List Bool)) (i j : Nat) : Bool := (M.getD i []).getD j false
theorem MatH.get {N : Nat} {H : Hp} {l : Addr} {M : List (List Bool)} (h : MatH N H l M) {i j : Nat} (hi : i < N) (hj : j < N) :
    ∃ rows a row, H l = some (.lst rows) ∧ atI rows (i : Int) = some (.ref a) ∧ H a = some (.lst row) ∧ atI row (j : Int) = some (.bl (mb M i j)) := by
  obtain ⟨rows, h1, h2, h3, h4⟩ := h
  have hi' : i < M.length := by omega
  have hM : M[i]? = some M[i] := List.getElem?_eq_getElem hi'
  obtain ⟨v, hv, a, rfl, ha⟩ := paired_get' h2 hM
  have hl := h4 _ (List.getElem_mem hi')
  have hj' : j < M[i].length := by omega
  refine ⟨rows, a, _, h1, atI_nat hv, ha, atI_nat ?_⟩
  rw [List.getElem?_map, List.getElem?_eq_getElem hj']
  show some (V.bl M[i][j]) = _
  have e1 : M.getD i [] = M[i] := by rw [List.getD_eq_getElem?_getD, hM]; rfl
  unfold mb
  rw [e1, List.getD_eq_getElem?_getD, List.getElem?_eq_getElem hj']
  rfl
def spGoOn : Sp := fun vs H Q _ => ∃ (u v : V) (n m : Nd) (l : Addr) (N : Nat) (M : List (List Bool)), vs = [u, v, .ref l] ∧ NdV H u n ∧ NdV H v m ∧ n.kind = m.kind ∧ MatH N H l M ∧ n.below N ∧ m.below N ∧ n.len ≤ 4 ∧ m.len ≤ 4 ∧ ∀ H' b, Keep [] H H' → Q (.bl b) H'
/-- the content of a mapping -/
def MpV (N : Nat) (H : Hp) (v : V) : Prop := ∃ q us es, v = .ref q ∧ H q = some (.tup us) ∧ Paired (PairV H) us es ∧ (∀ e ∈ es, e.1 < N ∧ e.2 < N) ∧ es.length ≤ 4
theorem MpV.keep {N : Nat} {H H' : Hp} {v : V} (k : Keep [] H H') (h : MpV N H v) : MpV N H' v := by
  obtain ⟨q, us, es, h1, h2, h3, h4⟩ := h
  exact ⟨q, us, es, h1, k.at_ h2, pairs_ext k.ext0 h3, h4⟩
section
variable {P : Program} {w : World} {K : PySem.W.Frag} {mg : Str → Option Value} {base : Heap}
theorem w_law_go_on (T : Txt K mg) (D : Dn K mg "_law_go_on" s_law_go_on) : Cl P w K mg base 1 "_law_go_on" spGoOn := by
  refine cl_of D sc_law_go_on (fun vs H Q E h => ?_) (fun _ _ _ _ _ _ us hl => match us, hl with | [_, _, _], _ => rfl) fun f cdv A outer s H vs Q E hr h => ?_
  · obtain ⟨u, v, n, m, l, N, M, rfl, _⟩ := h
    rfl
  obtain ⟨u, v, n, m, l, N, M, rfl, ⟨a, ct, rfl, ha, hct⟩, ⟨b, ct2, rfl, hb, hct2⟩, hk, hM, b1, b2, l1, l2, hQ⟩ := h
  refine ⟨_, PSs.nox (pss_cons (ps_if (pt_cmpR op_eq (pe_ix ix_tup (pv 0) pe_int (fun _ _ => rfl)) pe_str (nomark _)) (pss_one (ps_ret (pe_cmpR (op_eqD hr.units) (pe_lc (own := [("_law_mine", 3), ("_law_its", 4)]) (g := (gTup K 2 (gCons (gName 3) (gCons (gName 4) gNil)))) rfl sc_law_go_on.nd (RZ.pi_zipA (by rfl) T.zip_ (pa_cons (pe_ix ix_tup (pv 0) pe_int (fun _ _ => rfl)) (pa_cons (pe_ix ix_tup (pv 1) pe_int (fun _ _ => rfl)) pa_nil))) (blkOk_by (own := [("_law_mine", 3), ("_law_its", 4)]) (N := N_law_go_on) (sc := (defScope s_law_go_on)) (by decide +kernel)) (fun _ _ _ _ _ => (pg_tup (by rfl) (pgs_cons (pg_name (i := 3) sc_law_go_on.nd rfl (Or.inl rfl)) (pgs_cons (pg_name (i := 4) sc_law_go_on.nd rfl (Or.inl rfl)) pgs_nil)))) (fun _ _ _ _ _ => pts_one (pt_not (pt_val (pe_ix (kIxL (K := K) rfl) (pe_ix (kIxL (K := K) rfl) (pv 2) (pv 3) (fun _ _ => rfl)) (pv 4) (fun _ _ => rfl))))) (fun _ _ _ _ _ => pe_int)) (pe_lst pa_nil) (nomark _)))) pss_nil) (pss_cons (ps_if (pt_cmpR op_eq (pe_ix ix_tup (pv 0) pe_int (fun _ _ => rfl)) pe_str (nomark _)) (pss_one (ps_ret pe_bl)) pss_nil) (pss_cons (ps_for PassesOwn.never rfl (pi_tup (pe_tup (pa_cons (pe_tup (pa_cons (pe_ix ix_tup (pv 0) pe_int (fun _ _ => rfl)) (pa_cons (pe_ix ix_tup (pv 1) pe_int (fun _ _ => rfl)) pa_nil))) (pa_cons (pe_tup (pa_cons (pe_ix ix_tup (pv 1) pe_int (fun _ _ => rfl)) (pa_cons (pe_ix ix_tup (pv 0) pe_int (fun _ _ => rfl)) pa_nil))) pa_nil)))) (pg_tup (by rfl) (pgs_cons (pg_name (i := 3) sc_law_go_on.nd rfl (Or.inl rfl)) (pgs_cons (pg_name (i := 4) sc_law_go_on.nd rfl (Or.inl rfl)) pgs_nil))) (pss_one (ps_for PassesOwn.never rfl (pi_tup (pv 3)) (pg_tup (by rfl) (pgs_cons (pg_name (i := 5) sc_law_go_on.nd rfl (Or.inr rfl)) (pgs_cons (pg_name (i := 6) sc_law_go_on.nd rfl (Or.inr rfl)) pgs_nil))) (pss_one (ps_if (pt_cmpR (op_eqD hr.units) (pe_lc (own := [("_law_pair", 7)]) (g := (gName 7)) rfl sc_law_go_on.nd (pi_tup (pv 4)) (blkOk_by (own := [("_law_pair", 7)]) (N := N_law_go_on) (sc := (defScope s_law_go_on)) (by decide +kernel)) (fun _ _ _ _ _ => (pg_name (i := 7) sc_law_go_on.nd rfl (Or.inl rfl))) (fun _ _ _ _ _ => pts_one (PW.pt (pw_and (pt_val (pe_ix (kIxL (K := K) rfl) (pe_ix (kIxL (K := K) rfl) (pv 2) (pv 5) (fun _ _ => rfl)) (pe_ix (kIxT (K := K) rfl) (pv 7) pe_int (fun _ _ => rfl)) (fun _ _ => rfl))) (pw_and1 (pt_val (pe_ix (kIxL (K := K) rfl) (pe_ix (kIxL (K := K) rfl) (pv 2) (pv 6) (fun _ _ => rfl)) (pe_ix (kIxT (K := K) rfl) (pv 7) pe_int (fun _ _ => rfl)) (fun _ _ => rfl))))))) (fun _ _ _ _ _ => pe_int)) (pe_lst pa_nil) (nomark _)) (pss_one (ps_ret pe_bl)) pss_nil))))) (pss_one (ps_ret pe_bl))))), ?_⟩
  cases n with
  | sc t x =>
    refine ⟨_, rfl, a, _, _, _, rfl, rfl, SqT.of ha, rfl, rfl, _, rfl, iteF ?_⟩
    refine ⟨_, rfl, a, _, _, _, rfl, rfl, SqT.of ha, rfl, rfl, _, rfl, iteT ?_⟩
    exact hQ _ _ (Keep.refl _ _)
  | sq t xs =>
    cases m with
    | sc t' x' => exact absurd hk (by simp only [Nd.kind]; decide +kernel)
    | mp t' es => exact absurd hk (by simp only [Nd.kind]; decide +kernel)
    | sq t' ys =>
      obtain ⟨q, rfl, hx⟩ := hct
      obtain ⟨q2, rfl, hx2⟩ := hct2
      refine ⟨_, rfl, a, _, _, _, rfl, rfl, SqT.of ha, rfl, rfl, _, rfl, iteT ?_⟩
      refine ⟨_, rfl, a, _, _, _, rfl, rfl, SqT.of ha, rfl, _, rfl, b, _, _, _, rfl, rfl, SqT.of hb, rfl, q, q2, _, _, rfl, .inr ⟨SqT.of hx, SqT.of hx2, fun D hD => ?_⟩⟩
      refine lc_it (walk_zipT (xs := xs.map nV) (ys := ys.map nV) (n := (xs.zip ys).length) (by rw [List.length_zip, List.length_map, List.length_map])) (Gath H [] J0 D (xs.zip ys) (fun p => if mb M p.1 p.2 = true then none else some 1) (fun _ v b => v = nV b)) (gath0 hD trivial) (fun _ H _ p => ⟨SqT.of (p.keep.at_ hx), SqT.of (p.keep.at_ hx2)⟩) ?_ ?_
      · rintro i x H4 H5 hi p ⟨tt, x1, x2, rfl, ht, rfl, e1, e2⟩
        obtain ⟨z1, hz1, rfl⟩ := map_get e1
        obtain ⟨z2, hz2, rfl⟩ := map_get e2
        have kt : Keep [] H4 (upd H4 tt (.tup [nV z1, nV z2])) := keep_new ht
        have htt : upd H4 tt (.tup [nV z1, nV z2]) tt = some (.tup [nV z1, nV z2]) := upd_same
        have ez : (xs.zip ys)[i]? = some (z1, z2) := List.getElem?_zip_eq_some.mpr ⟨hz1, hz2⟩
        have hxl : xs.length ≤ 4 := l1
        generalize upd H4 tt (.tup [nV z1, nV z2]) = H5 at *
        obtain ⟨rows, ra, row, g1, g2, g3, g4⟩ := (hM.keep (p.keep.trans kt)).get (b1 z1 (List.mem_of_getElem? hz1)) (b2 z2 (List.mem_of_getElem? hz2))
        refine ⟨tt, _, rfl, SqT.of htt, rfl, _, _, rfl, _, _, rfl, rfl, rfl, ?_⟩
        refine ⟨_, rfl, _, rfl, l, rows, _, _, rfl, rfl, SqL.of g1, g2, _, rfl, ra, row, _, _, rfl, rfl, SqL.of g3, g4, _, rfl, ?_⟩
        cases e : mb M z1 z2 with
        | true => exact iteF (p.no gx_flat ez kt trivial (if_pos e))
        | false => exact iteT (p.yes gx_flat hD ez (small_line (by rw [List.length_zip]; omega)) kt trivial (if_neg (by rw [e]; decide)) rfl)
      · intro H4 p
        obtain ⟨k4, _, ws, hy, hp⟩ := p.all rfl
        rw [paired_eq hp] at hy
        refine ⟨(by show 0 ≤ sizeLine; decide), fun e0 he0 => ?_⟩
        have ke : Keep [] H4 (upd H4 e0 (.lst [])) := keep_new he0
        exact ⟨_, _, dp_nats (SqL.of (ke.at_ hy)), dp_nats (ns := []) (SqL.of upd_same), dNs_shaped _, dNs_shaped _, hQ _ _ (k4.trans ke)⟩
  | mp t es =>
    cases m with
    | sc t' x' => exact absurd hk (by simp only [Nd.kind]; decide +kernel)
    | sq t' es => exact absurd hk (by simp only [Nd.kind]; decide +kernel)
    | mp t' fs =>
      obtain ⟨q, us, rfl, hx, hp⟩ := hct
      obtain ⟨q2, us2, rfl, hx2, hp2⟩ := hct2
      refine ⟨_, rfl, a, _, _, _, rfl, rfl, SqT.of ha, rfl, rfl, _, rfl, iteF ?_⟩
      refine ⟨_, rfl, a, _, _, _, rfl, rfl, SqT.of ha, rfl, rfl, _, rfl, iteF ?_⟩
      refine ⟨_, rfl, a, _, _, _, rfl, rfl, SqT.of ha, rfl, _, rfl, b, _, _, _, rfl, rfl, SqT.of hb, rfl, (by show 2 ≤ sizeLine; decide), fun t1 ht1 => ?_⟩
      have kt1 : Keep [] H (upd H t1 (.tup [.ref q, .ref q2])) := keep_new ht1
      have ht1' : upd H t1 (.tup [.ref q, .ref q2]) t1 = some (.tup [.ref q, .ref q2]) := upd_same
      generalize upd H t1 (.tup [.ref q, .ref q2]) = H1 at *
      refine ⟨_, rfl, b, _, _, _, rfl, rfl, SqT.of (kt1.at_ hb), rfl, _, rfl, a, _, _, _, rfl, rfl, SqT.of (kt1.at_ ha), rfl, (by show 2 ≤ sizeLine; decide), fun t2 ht2 => ?_⟩
      have kt2 : Keep [] H1 (upd H1 t2 (.tup [.ref q2, .ref q])) := keep_new ht2
      have ht2' : upd H1 t2 (.tup [.ref q2, .ref q]) t2 = some (.tup [.ref q2, .ref q]) := upd_same
      generalize upd H1 t2 (.tup [.ref q2, .ref q]) = H2 at *
      refine ⟨(by show 2 ≤ sizeLine; decide), fun t3 ht3 => ?_⟩
      have kt3 : Keep [] H2 (upd H2 t3 (.tup [.ref t1, .ref t2])) := keep_new ht3
      have ht3' : upd H2 t3 (.tup [.ref t1, .ref t2]) t3 = some (.tup [.ref t1, .ref t2]) := upd_same
      generalize upd H2 t3 (.tup [.ref t1, .ref t2]) = H3 at *
      have k3 := (kt1.trans kt2).trans kt3
      have mp1 : MpV N H (.ref q) := ⟨q, us, es, rfl, hx, hp, b1, l1⟩
      have mp2 : MpV N H (.ref q2) := ⟨q2, us2, fs, rfl, hx2, hp2, b2, l2⟩
      refine ⟨t3, rfl, ⟨_, SqT.of ht3'⟩, ?_⟩
      refine for_it (walk_tup (xs := [.ref t1, .ref t2])) (fun i σ H4 => Keep [] H3 H4 ∧ ∃ u1 u2 u3 u4, σ = [some (.ref a), some (.ref b), some (.ref l), u1, u2, u3, u4, none])
        ⟨Keep.refl _ _, _, _, _, _, rfl⟩ (fun i σ H4 _ z => SqT.of (z.1.at_ ht3')) ?_ ?_
      · rintro i x σ H4 H5 hi ⟨k4, u1, u2, u3, u4, rfl⟩ ⟨rfl, ex⟩
        have hx' : ∃ t x1 x2, x = .ref t ∧ H3 t = some (.tup [x1, x2]) ∧ MpV N H x1 ∧ MpV N H x2 := by
          match i, hi with
          | 0, _ => exact ⟨t1, _, _, (Option.some.inj ex).symm, kt3.at_ (kt2.at_ ht1'), mp1, mp2⟩
          | 1, _ => exact ⟨t2, _, _, (Option.some.inj ex).symm, kt3.at_ ht2', mp2, mp1⟩
        obtain ⟨t, x1, x2, rfl, ht, m1, m2⟩ := hx'
        have k34 := k3.trans k4
        refine ⟨t, _, rfl, SqT.of (k4.at_ ht), rfl, _, _, rfl, _, _, rfl, rfl, ?_⟩
        obtain ⟨p1, vs1, es1, rfl, hv1, hp1, hb1, hl1⟩ := m1
        obtain ⟨p2, vs2, es2, rfl, hv2, hp2', hb2, hl2⟩ := m2
        have vl2 : vs2.length = es2.length := paired_len hp2'
        refine ⟨_, rfl, p1, rfl, ⟨_, SqT.of (k34.at_ hv1)⟩, ?_⟩
        refine for_it (walk_tup (xs := vs1)) (fun j σ H5 => Keep [] H3 H5 ∧ ∃ u3 u4, σ = [some (.ref a), some (.ref b), some (.ref l), some (.ref p1), some (.ref p2), u3, u4, none])
          ⟨k4, _, _, rfl⟩ (fun i σ H4 _ z => SqT.of ((k3.trans z.1).at_ hv1)) ?_ ?_
        · rintro j y σ H6 H7 hj ⟨k6, u5, u6, rfl⟩ ⟨rfl, ey⟩
          obtain ⟨e, he, pv⟩ := paired_get hp1 ey
          have k36 := k3.trans k6
          obtain ⟨te, rfl, hte⟩ := pv.ext k36.ext0
          obtain ⟨c1, c2⟩ := hb1 e (List.mem_of_getElem? he)
          refine ⟨te, _, rfl, SqT.of hte, rfl, _, _, rfl, _, _, rfl, rfl, ?_⟩
          refine ⟨_, rfl, p2, rfl, ⟨_, SqT.of (k36.at_ hv2)⟩, fun D hD => ?_⟩
          refine lc_it (walk_tup (xs := vs2)) (Gath H7 [] J0 D es2 (fun p => if (mb M e.1 p.1 && mb M e.2 p.2) = true then some 1 else none) (fun _ v b => v = nV b)) (gath0 hD trivial) (fun _ H _ p => SqT.of (p.keep.at_ (k36.at_ hv2))) ?_ ?_
          · rintro i x H8 H9 hi p ⟨rfl, ex⟩
            obtain ⟨g, hg, pg⟩ := paired_get hp2' ex
            have k38 := k36.trans p.keep
            obtain ⟨tg, rfl, htg⟩ := pg.ext k38.ext0
            obtain ⟨d1, d2⟩ := hb2 g (List.mem_of_getElem? hg)
            obtain ⟨rows, ra, row, g1, g2, g3, g4⟩ := (hM.keep k38).get c1 d1
            refine ⟨rfl, _, rfl, _, rfl, l, rows, _, _, rfl, rfl, SqL.of g1, g2, _, rfl, tg, _, _, _, rfl, rfl, SqT.of htg, rfl, ra, row, _, _, rfl, rfl, SqL.of g3, g4, _, rfl, ?_⟩
            cases m1 : mb M e.1 g.1 with
            | false => exact iteF (iteF (p.no gx_flat hg (Keep.refl _ _) trivial (if_neg (by rw [m1]; simp))))
            | true =>
              obtain ⟨rows, ra, row, g1, g2, g3, g4⟩ := (hM.keep k38).get c2 d2
              refine iteT ⟨_, rfl, _, rfl, l, rows, _, _, rfl, rfl, SqL.of g1, g2, _, rfl, tg, _, _, _, rfl, rfl, SqT.of htg, rfl, ra, row, _, _, rfl, rfl, SqL.of g3, g4, _, rfl, ?_⟩
              cases m2 : mb M e.2 g.2 with
              | false => exact iteF (p.no gx_flat hg (Keep.refl _ _) trivial (if_neg (by rw [m1, m2]; simp)))
              | true => exact iteT (p.yes gx_flat hD hg (small_line (by omega)) (Keep.refl _ _) trivial (if_pos (by rw [m1, m2]; rfl)) rfl)
          · intro H8 p
            obtain ⟨k8, _, ws, hy, hpw⟩ := p.all vl2
            rw [paired_eq hpw] at hy
            refine ⟨(by show 0 ≤ sizeLine; decide), fun e0 he0 => ?_⟩
            have ke : Keep [] H8 (upd H8 e0 (.lst [])) := keep_new he0
            refine ⟨_, _, dp_nats (SqL.of (ke.at_ hy)), dp_nats (ns := []) (SqL.of upd_same), dNs_shaped _, dNs_shaped _, _, rfl, ?_⟩
            cases PyData.eqv (dNs (es2.filterMap fun p => if (mb M e.1 p.1 && mb M e.2 p.2) = true then some 1 else none)) (dNs []) with
            | true => exact iteT (hQ _ _ ((k36.trans k8).trans ke))
            | false => exact iteF ⟨(k6.trans k8).trans ke, _, _, rfl⟩
        · rintro σ H6 ⟨k6, u5, u6, rfl⟩
          exact ⟨k6, _, _, _, _, rfl⟩
      · rintro σ H4 ⟨k4, u1, u2, u3, u4, rfl⟩
        exact hQ _ _ (k3.trans k4)
end
end Ap
set_option Elab.async false
set_option linter.all false
set_option maxRecDepth 100000
set_option maxHeartbeats 4000000
namespace Ap
open PySem PySem.Spec PyProof.Rows L2
abbrev N_law_rounds : List Str := ["_law_nodes_here", "_law_bound", "_law_found", "_law_turn", "_law_now", "_law_later", "_law_at", "_law_row", "_law_to", "_law_one_here", "_law_other"]
theorem sc_law_rounds : FnScope N_law_rounds ["_law_nodes_here"] (defScope s_law_rounds) := ⟨rfl, rfl, rfl, by decide +kernel, rfl, by decide +kernel, by decide +kernel⟩

/-- a square at l, none of its lists is F -/
def MatF (F : Addr) (N : Nat) (H : Hp) (l : Addr) (M : List (List Bool)) : Prop := ∃ rows, H l = some (.lst rows) ∧ l ≠ F ∧ Paired (RB F H) rows M ∧ M.length = N ∧ ∀ r ∈ M, r.length = N
theorem RB.rw {F : Addr} {H : Hp} {v : V} {bs : List Bool} (h : RB F H v bs) : RW H v bs := by
  obtain ⟨l, h1, _, h2⟩ := h
  exact ⟨l, h1, h2⟩
theorem RB.keep {F : Addr} {H H' : Hp} {v : V} {bs : List Bool} (k : Keep [] H H') (h : RB F H v bs) : RB F H' v bs := by
  obtain ⟨l, h1, h2, h3⟩ := h
  exact ⟨l, h1, h2, k.at_ h3⟩
theorem RB.updF {F : Addr} {H : Hp} {o : HO} {v : V} {bs : List Bool} (h : RB F H v bs) : RB F (upd H F o) v bs := by
  obtain ⟨l, h1, h2, h3⟩ := h
  exact ⟨l, h1, h2, by rw [upd_ne h2]; exact h3⟩
theorem MatF.mat {F : Addr} {N : Nat} {H : Hp} {l : Addr} {M : List (List Bool)} (h : MatF F N H l M) : MatH N H l M := by
  obtain ⟨rows, h1, _, h2, h3⟩ := h
  exact ⟨rows, h1, Paired.mapP h2 fun _ _ z => z.rw, h3⟩
theorem MatF.keep {F : Addr} {N : Nat} {H H' : Hp} {l : Addr} {M : List (List Bool)} (k : Keep [] H H') (h : MatF F N H l M) : MatF F N H' l M := by
  obtain ⟨rows, h1, h2, h3, h4⟩ := h
  exact ⟨rows, k.at_ h1, h2, Paired.mapP h3 fun _ _ z => z.keep k, h4⟩
theorem MatF.updF {F : Addr} {N : Nat} {H : Hp} {o : HO} {l : Addr} {M : List (List Bool)} (h : MatF F N H l M) : MatF F N (upd H F o) l M := by
  obtain ⟨rows, h1, h2, h3, h4⟩ := h
  exact ⟨rows, by rw [upd_ne h2]; exact h1, h2, Paired.mapP h3 fun _ _ z => z.updF, h4⟩
/-- together only where the first keys are the same -/
def RowOk (ns : List Nd) (i : Nat) (row : List Bool) : Prop := ∀ k, row[k]? = some true → firstKey (ndAt ns i) = firstKey (ndAt ns k)
def MOk (ns : List Nd) (M : List (List Bool)) : Prop := ∀ i row, M[i]? = some row → RowOk ns i row
theorem MOk.get {ns : List Nd} {M : List (List Bool)} (h : MOk ns M) {i k : Nat} (e : mb M i k = true) : firstKey (ndAt ns i) = firstKey (ndAt ns k) := by
  unfold mb at e
  rw [List.getD_eq_getElem?_getD, List.getD_eq_getElem?_getD] at e
  cases h1 : M[i]? with
  | none => rw [h1] at e; simp at e
  | some row =>
    rw [h1] at e
    cases h2 : row[k]? with
    | none =>
      have e : row[k]?.getD false = true := e
      rw [h2] at e
      cases e
    | some b =>
      have e : row[k]?.getD false = true := e
      rw [h2] at e
      have e : b = true := e
      subst e
      exact h i row h1 k h2
def dB (bs : List Bool) : PyData := .list (bs.map .bool)
def dM (M : List (List Bool)) : PyData := .list (M.map dB)
theorem dB_lay : ∀ bs : List Bool, PyData.canLayAll0 (bs.map .bool) = true ∧ PyData.depthAll (bs.map .bool) = 0
  | [] => ⟨rfl, rfl⟩
  | b :: bs => by
    obtain ⟨h1, h2⟩ := dB_lay bs
    rw [List.map_cons, PyData.canLayAll0, PyData.depthAll, h1, h2]
    exact ⟨rfl, rfl⟩
theorem dM_lay : ∀ M : List (List Bool), PyData.canLayAll0 (M.map dB) = true ∧ PyData.depthAll (M.map dB) ≤ 1
  | [] => ⟨rfl, Nat.zero_le _⟩
  | b :: M => by
    obtain ⟨h1, h2⟩ := dM_lay M
    obtain ⟨h3, h4⟩ := dB_lay b
    have h5 : (dB b).depth = 1 := by unfold dB; rw [PyData.depth, h4]
    have h6 : (dB b).canLay0 = true := by unfold dB; rw [PyData.canLay0, h3]
    rw [List.map_cons, PyData.canLayAll0, PyData.depthAll, h1, h5, h6]
    exact ⟨rfl, by omega⟩
theorem dM_shaped (M : List (List Bool)) : SeqAt.shaped (dM M) = true := by
  obtain ⟨h1, h2⟩ := dM_lay M
  unfold SeqAt.shaped dM
  rw [PyData.canLay0, PyData.depth, h1, decide_eq_true (by omega)]
  rfl
theorem dpAll_bl {K : PySem.W.Frag} {H : Hp} : ∀ bs : List Bool, DpAll K H (bs.map V.bl) (bs.map .bool)
  | [] => .nil
  | b :: bs => .cons (.bl b) (dpAll_bl bs)
theorem dp_mat {K : PySem.W.Frag} {H : Hp} {R : V → List Bool → Prop} (hR : ∀ v bs, R v bs → RW H v bs) : ∀ {rows : List V} {M : List (List Bool)}, Paired R rows M → DpAll K H rows (M.map dB)
  | _, _, .nil => .nil
  | _, _, .cons q t => by
    obtain ⟨a, rfl, h⟩ := hR _ _ q
    exact .cons (.lst (SqL.of h) (dpAll_bl _)) (dp_mat hR t)
theorem rg_get {n i : Nat} {x : V} (h : (rgV 0 (n : Int))[i]? = some x) : x = nV i ∧ i < n := by
  unfold rgV at h
  obtain ⟨k, hk, rfl⟩ := map_get h
  have hi := (List.getElem?_eq_some_iff.mp hk).1
  rw [List.length_range] at hi
  rw [List.getElem?_range hi] at hk
  have := Option.some.inj hk
  subst this
  exact ⟨by show V.int (0 + (i : Int)) = _; rw [Int.zero_add], by omega⟩
def spLRounds : Sp := fun vs H Q _ => ∃ (a : Addr) (us : List V) (ns : List Nd), vs = [.ref a] ∧ H a = some (.lst us) ∧ Paired (NdV H) us ns ∧ (∀ n ∈ ns, n.len ≤ 4 ∧ TxtOk n ∧ Lay n ∧ n.below ns.length) ∧ ns.length ≤ 100 ∧
  ∀ H' F ls l M, Keep [] H H' → H F = none → H' F = some (.lst (ls ++ [.ref l])) → MatH ns.length H' l M → Q (.ref F) H'
section
variable {P : Program} {w : World} {K : PySem.W.Frag} {mg : Str → Option Value} {base : Heap}
theorem w_law_rounds (T : Txt K mg) (c_law_starts : Cl P w K mg base 1 "_law_starts" spStarts) (c_law_go_on : Cl P w K mg base 1 "_law_go_on" spGoOn) (D : Dn K mg "_law_rounds" s_law_rounds) : Cl P w K mg base 2 "_law_rounds" spLRounds := by
  refine cl_of D sc_law_rounds (fun vs H Q E h => ?_) (fun _ _ _ _ _ _ us hl => match us, hl with | [_], _ => rfl) fun f cdv A outer s H vs Q E hr h => ?_
  · obtain ⟨a, us, ns, rfl, _⟩ := h
    rfl
  obtain ⟨a, us, ns, rfl, ha, hp, hok, h100, hQ⟩ := h
  have ul : us.length = ns.length := paired_len hp
  refine ⟨_, PSs.nox (pss_cons (ps_set (i := 1) sc_law_rounds.nd rfl (Or.inl rfl) (pe_listRg rfl (by rfl) T.list_ (prg_1 (by rfl) T.range_ (pe_callB call_len (by rfl) T.len_ PySem.boot_len (pa_cons (pv 0) pa_nil))))) (pss_cons (ps_set (i := 2) sc_law_rounds.nd rfl (Or.inl rfl) (pe_lst (pa_cons (pe_lc (own := [("_law_one_here", 9)]) (g := (gName 9)) (tt := tYes) rfl sc_law_rounds.nd (pi_list (pv 0)) (blkOk_by (own := [("_law_one_here", 9)]) (N := N_law_rounds) (sc := (defScope s_law_rounds)) (by decide +kernel)) (fun _ _ _ _ _ => (pg_name (i := 9) sc_law_rounds.nd rfl (Or.inr rfl))) (fun _ _ _ _ _ => pts_nil) (fun _ _ _ _ _ => (pe_lc (own := [("_law_other", 10)]) (g := (gName 10)) (tt := tYes) rfl sc_law_rounds.nd (kList (K := K) rfl (pv 0)) (blkOk_by (own := [("_law_other", 10)]) (N := N_law_rounds) (sc := (relS _ (defScope s_law_rounds))) (by decide +kernel)) (fun _ _ _ _ _ => (pg_name (i := 10) sc_law_rounds.nd rfl (Or.inl rfl))) (fun _ _ _ _ _ => pts_nil) (fun _ _ _ _ _ => (pe_cmpR (kEqD (K := K) rfl hr.units) (pe_cl c_law_starts hr (by decide) rfl (pa_cons (pv 9) pa_nil)) (pe_cl c_law_starts hr (by decide) rfl (pa_cons (pv 10) pa_nil)) (nomark _)))))) pa_nil))) (pss_cons (ps_for PassesOwn.never rfl (pi_list (pv 1)) (pg_name (i := 3) sc_law_rounds.nd rfl (Or.inl rfl)) (pss_cons (ps_par (by rfl) sc_law_rounds.nd (i := 4) (j := 5) rfl rfl (by decide) rfl rfl (pa_cons (pe_ix ix_list (pv 2) (pe_un un_neg pe_int) (fun _ _ => rfl)) (pa_cons (pe_lst pa_nil) pa_nil)) (by rfl)) (pss_cons (ps_for PassesOwn.never rfl (pi_list (pv 1)) (pg_name (i := 6) sc_law_rounds.nd rfl (Or.inl rfl)) (pss_cons (ps_set (i := 7) sc_law_rounds.nd rfl (Or.inl rfl) (pe_lst pa_nil)) (pss_cons (ps_for PassesOwn.never rfl (pi_list (pv 1)) (pg_name (i := 8) sc_law_rounds.nd rfl (Or.inl rfl)) (pss_one (ps_expr (pe_bm PySem.F.plainAttrs_list PySem.F.slot_list_append PySem.F.type_list_append mt_append (pv 7) (pa_cons (pe_and (pe_ix ix_list (pe_ix ix_list (pv 4) (pv 6) (fun _ _ => rfl)) (pv 8) (fun _ _ => rfl)) (pe_one (pe_cl c_law_go_on hr (by decide) rfl (pa_cons (pe_ix ix_list (pv 0) (pv 6) (fun _ _ => rfl)) (pa_cons (pe_ix ix_list (pv 0) (pv 8) (fun _ _ => rfl)) (pa_cons (pv 4) pa_nil)))))) pa_nil))))) (pss_one (ps_expr (pe_bm PySem.F.plainAttrs_list PySem.F.slot_list_append PySem.F.type_list_append mt_append (pv 5) (pa_cons (pv 7) pa_nil))))))) (pss_cons (ps_if (pt_cmpR (op_eqD hr.units) (pv 5) (pv 4) (nomark _)) (pss_one (ps_ret (pv 2))) pss_nil) (pss_one (ps_expr (pe_bm PySem.F.plainAttrs_list PySem.F.slot_list_append PySem.F.type_list_append mt_append (pv 2) (pa_cons (pv 5) pa_nil)))))))) (pss_one (ps_ret (pv 2)))))), ?_⟩
  refine ⟨_, rfl, _, us.length, rfl, .inl ⟨_, SqL.of ha, rfl⟩, _, rfl, .of_le (by omega) (by omega) (by omega) (by omega), fun B hB => ?_⟩
  have kB : Keep [] H (upd H B (.lst (rgV 0 (us.length : Int)))) := keep_new hB
  have hB1 : upd H B (.lst (rgV 0 (us.length : Int))) B = some (.lst (rgV 0 (us.length : Int))) := upd_same
  generalize upd H B (.lst (rgV 0 (us.length : Int))) = H1 at *
  have bl : (rgV 0 (us.length : Int)).length = us.length := by rw [rgV_length]; omega
  refine ⟨_, rfl, a, rfl, ⟨_, SqL.of (kB.at_ ha)⟩, fun D0 hD0 => ?_⟩
  refine lc_it (walk_list (xs := us)) (Gath H1 [] J0 D0 ns (fun e => some (ns.map fun o => decide (firstKey e = firstKey o))) (RB D0)) (gath0 hD0 trivial) (fun _ H _ p => SqL.of (p.keep.at_ (kB.at_ ha))) ?_ ?_
  · rintro i x H2 H3 hi p ⟨rfl, ex⟩
    obtain ⟨e, he, ev⟩ := paired_get hp ex
    have oe := hok e (List.mem_of_getElem? he)
    refine ⟨rfl, yes_ ?_⟩
    refine ⟨_, rfl, a, rfl, ⟨_, SqL.of (p.keep.at_ (kB.at_ ha))⟩, fun D1 hD1 => ?_⟩
    have hDD : D1 ≠ D0 := by
      obtain ⟨_, _, ys, hy, _⟩ := p
      exact fun z => by subst z; rw [hD1] at hy; cases hy
    have ha3 := p.keep.at_ (kB.at_ ha)
    refine lc_it (walk_list (xs := us)) (Gath H3 [] J0 D1 ns (fun o => some (decide (firstKey e = firstKey o))) (fun _ v b => v = .bl b)) (gath0 hD1 trivial) (fun _ H _ p => SqL.of (p.keep.at_ ha3)) ?_ ?_
    · rintro j y H4 H5 hj p2 ⟨rfl, ey⟩
      obtain ⟨o, ho, ov⟩ := paired_get hp ey
      have oo := hok o (List.mem_of_getElem? ho)
      have k5 := (kB.trans p.keep).trans p2.keep
      refine ⟨rfl, yes_ ?_⟩
      refine ⟨_, rfl, x, e, rfl, ev.ext k5.ext0, oe.1, oe.2.1, fun H6 v6 k6 f1 => ?_⟩
      refine ⟨_, rfl, y, o, rfl, ov.ext (k5.trans k6).ext0, oo.1, oo.2.1, fun H7 v7 k7 f2 => ?_⟩
      obtain ⟨a1, rfl, f1, _⟩ := f1.ext k7.ext0
      obtain ⟨a2, rfl, f2, _⟩ := f2
      refine ⟨_, _, KeyV.dp _ _ f1, KeyV.dp _ _ f2, shaped_key oe.2.2.1, shaped_key oo.2.2.1, ?_⟩
      rw [dk_eqv]
      exact p2.yes gx_flat hD1 ho (small_line (by omega)) (k6.trans k7) trivial rfl rfl
    · intro H4 p2
      obtain ⟨k4, _, ys, hy, hq⟩ := p2.all ul
      rw [fm_some] at hq
      rw [bl_list hq] at hy
      exact p.yes gx_rb hD0 he (small_line (by omega)) k4 trivial rfl ⟨D1, rfl, hDD, hy⟩
  intro H2 p
  obtain ⟨k2, _, rows, hrows, hpr⟩ := p.all ul
  rw [fm_some] at hpr
  refine ⟨(by show 1 ≤ sizeLine; decide), fun F hF => ?_⟩
  have kF : Keep [] H2 (upd H2 F (.lst [.ref D0])) := keep_new hF
  have hF0 : H F = none := none_of (kB.trans k2) hF
  have hF1 : H1 F = none := none_of k2 hF
  have m0 : MatF F ns.length (upd H2 F (.lst [.ref D0])) D0 (ns.map fun e => ns.map fun o => decide (firstKey e = firstKey o)) := by
    refine ⟨rows, kF.at_ hrows, ne_of_none hrows hF, Paired.mapP hpr fun v bs ⟨l, h1, h2, h3⟩ => ⟨l, h1, ne_of_none h3 hF, kF.at_ h3⟩, by rw [List.length_map], fun r hr => ?_⟩
    obtain ⟨e, _, rfl⟩ := List.mem_map.mp hr
    rw [List.length_map]
  have mok0 : MOk ns (ns.map fun e => ns.map fun o => decide (firstKey e = firstKey o)) := by
    intro i row hrow k hk
    obtain ⟨e, he, rfl⟩ := map_get hrow
    obtain ⟨o, ho, hb⟩ := map_get hk
    rw [ndAt_of he, ndAt_of ho]
    exact of_decide_eq_true hb.symm
  have kBF := k2.trans kF
  generalize hH3 : upd H2 F (.lst [.ref D0]) = H3 at *
  have hF3 : H3 F = some (.lst [.ref D0]) := by rw [← hH3]; exact upd_same
  refine ⟨_, rfl, B, rfl, ⟨_, SqL.of (kBF.at_ hB1)⟩, ?_⟩
  refine for_it (walk_list (xs := rgV 0 (us.length : Int))) (fun i σ H4 => Keep [] H1 H4 ∧ (∃ ls l M, H4 F = some (.lst (ls ++ [.ref l])) ∧ ls.length ≤ i ∧ MatF F ns.length H4 l M ∧ MOk ns M) ∧ ∃ u3 u4 u5 u6 u7 u8, σ = [some (.ref a), some (.ref B), some (.ref F), u3, u4, u5, u6, u7, u8, none, none])
    ⟨kBF, ⟨[], D0, _, hF3, Nat.le_refl _, m0, mok0⟩, _, _, _, _, _, _, rfl⟩ (fun i σ H4 _ z => SqL.of (z.1.at_ hB1)) ?_ ?_
  · rintro i x σ H4 H5 hi ⟨k4, ⟨ls, l, M, hF4, hlen, hM, hMO⟩, u3, u4, u5, u6, u7, u8, rfl⟩ ⟨rfl, ex⟩
    obtain ⟨rfl, hi'⟩ := rg_get ex
    refine ⟨_, rfl, _, rfl, F, _, _, _, rfl, rfl, SqL.of hF4, atI_last _ _, (by show 0 ≤ sizeLine; decide), fun L hL => ⟨_, _, rfl, ?_⟩⟩
    have kL : Keep [] H5 (upd H5 L (.lst [])) := keep_new hL
    have hLF : L ≠ F := fun z => by subst z; rw [hL] at hF4; cases hF4
    refine ⟨_, rfl, B, rfl, ⟨_, SqL.of (kL.at_ (k4.at_ hB1))⟩, ?_⟩
    refine for_it (walk_list (xs := rgV 0 (us.length : Int))) (fun j σ H6 => Keep [] H5 H6 ∧ (∃ rws Ms, H6 L = some (.lst rws) ∧ Paired (fun v bs => RB F H6 v bs ∧ v ≠ .ref L) rws Ms ∧ Ms.length = j ∧ (∀ r ∈ Ms, r.length = ns.length) ∧ MOk ns Ms) ∧ ∃ u6 u7 u8, σ = [some (.ref a), some (.ref B), some (.ref F), some (nV i), some (.ref l), some (.ref L), u6, u7, u8, none, none])
      ⟨kL, ⟨[], [], upd_same, .nil, rfl, fun r h => by simp at h, fun i row h => by simp at h⟩, _, _, _, rfl⟩ (fun i σ H4 _ z => SqL.of (z.1.at_ (k4.at_ hB1))) ?_ ?_
    · rintro j x σ H6 H7 hj ⟨k6, ⟨rws, Ms, hL6, hpm, hml, hmr, hmo⟩, u6, u7, u8, rfl⟩ ⟨rfl, ex⟩
      obtain ⟨rfl, hj'⟩ := rg_get ex
      refine ⟨(by show 0 ≤ sizeLine; decide), fun R hR => ?_⟩
      have kR : Keep [] H7 (upd H7 R (.lst [])) := keep_new hR
      have hRL : R ≠ L := fun z => by subst z; rw [hR] at hL6; cases hL6
      have hRF : R ≠ F := fun z => by subst z; have := k6.at_ hF4; rw [hR] at this; cases this
      refine ⟨_, rfl, B, rfl, ⟨_, SqL.of (kR.at_ (k6.at_ (k4.at_ hB1)))⟩, ?_⟩
      refine for_it (walk_list (xs := rgV 0 (us.length : Int))) (fun k σ H8 => Keep [] H7 H8 ∧ (∃ bs, H8 R = some (.lst (bs.map V.bl)) ∧ bs.length = k ∧ RowOk ns j bs) ∧ ∃ u8, σ = [some (.ref a), some (.ref B), some (.ref F), some (nV i), some (.ref l), some (.ref L), some (nV j), some (.ref R), u8, none, none])
        ⟨kR, ⟨[], upd_same, rfl, fun k h => by simp at h⟩, _, rfl⟩ (fun i σ H4 _ z => SqL.of (z.1.at_ (k6.at_ (k4.at_ hB1)))) ?_ ?_
      · rintro k x σ H8 H9 hk ⟨k8, ⟨bs, hR8, hbl, hro⟩, v8, rfl⟩ ⟨rfl, ex⟩
        obtain ⟨rfl, hk'⟩ := rg_get ex
        have k58 := k6.trans k8
        have k18 := k4.trans k58
        have k08 := kB.trans k18
        obtain ⟨rows, ra, row, g1, g2, g3, g4⟩ := (hM.keep k58).mat.get (i := j) (j := k) (by omega) (by omega)
        have app : ∀ (H10 : Hp) (b : Bool), Keep [] H9 H10 → (b = true → firstKey (ndAt ns j) = firstKey (ndAt ns k)) → rAppend (.ref R) [.bl b] H10 fun _ H11 =>
            Keep [] H7 H11 ∧ (∃ bs, H11 R = some (.lst (bs.map V.bl)) ∧ bs.length = k + 1 ∧ RowOk ns j bs) ∧ ∃ u8, [some (V.ref a), some (.ref B), some (.ref F), some (nV i), some (.ref l), some (.ref L), some (nV j), some (.ref R), some (nV k), none, none] = [some (.ref a), some (.ref B), some (.ref F), some (nV i), some (.ref l), some (.ref L), some (nV j), some (.ref R), u8, none, none] := by
          intro H10 b k10 hb
          refine ⟨R, _, _, rfl, rfl, k10.at_ hR8, small_line (by rw [List.length_map]; omega), (k8.trans k10).upd0 hR, ⟨bs ++ [b], by rw [upd_same, List.map_append]; rfl, by rw [List.length_append, hbl]; rfl, fun m hm => ?_⟩, _, rfl⟩
          rw [List.getElem?_append] at hm
          split at hm
          · exact hro m hm
          · rename_i hlt
            have hz : m - bs.length = 0 := by
              cases z : m - bs.length with
              | zero => rfl
              | succ q => rw [z] at hm; simp at hm
            rw [hz] at hm
            have hmk : m = k := by omega
            subst hmk
            exact hb (Option.some.inj hm)
        refine ⟨_, rfl, .inl ⟨rfl, _, SqL.of hR8⟩, ?_⟩
        refine ⟨_, rfl, _, rfl, l, rows, _, _, rfl, rfl, SqL.of g1, g2, _, rfl, ra, row, _, _, rfl, rfl, SqL.of g3, g4, _, rfl, ?_⟩
        cases e : mb M j k with
        | false => exact iteF (app _ false (Keep.refl _ _) (fun z => by cases z))
        | true =>
          have hfk := hMO.get e
          have hj2 : j < ns.length := by omega
          have hk2 : k < ns.length := by omega
          obtain ⟨x1, hx1, n1⟩ := paired_get' hp (ndAt_get hj2)
          obtain ⟨x2, hx2, n2⟩ := paired_get' hp (ndAt_get hk2)
          have o1 := hok _ (List.mem_of_getElem? (ndAt_get hj2))
          have o2 := hok _ (List.mem_of_getElem? (ndAt_get hk2))
          refine iteT ⟨_, rfl, _, rfl, a, us, _, _, rfl, rfl, SqL.of (k08.at_ ha), atI_nat hx1, _, rfl, _, rfl, a, us, _, _, rfl, rfl, SqL.of (k08.at_ ha), atI_nat hx2, _, rfl, ?_⟩
          exact ⟨x1, x2, ndAt ns j, ndAt ns k, l, ns.length, M, rfl, n1.ext k08.ext0, n2.ext k08.ext0, first_kind hfk, (hM.keep k58).mat, o1.2.2.2, o2.2.2.2, o1.1, o2.1, fun H10 b k10 => app H10 b k10 fun _ => hfk⟩
      · rintro σ H8 ⟨k8, ⟨bs, hR8, hbl, hro⟩, v8, rfl⟩
        have hL8 := k8.at_ hL6
        have hrl := paired_len hpm
        refine ⟨_, rfl, .inl ⟨rfl, _, SqL.of hL8⟩, _, rfl, L, rws, _, rfl, rfl, hL8, small_line (by omega), ?_⟩
        refine ⟨(k6.trans k8).upd0 hL, ⟨_, Ms ++ [bs], upd_same, paired_app ⟨⟨R, rfl, hRF, by rw [upd_ne hRL]; exact hR8⟩, fun z => hRL (V.ref.inj z)⟩ (Paired.mapP hpm fun v bs' ⟨⟨l', h1, h2, h3⟩, h4⟩ => ⟨⟨l', h1, h2, ?_⟩, h4⟩), by rw [List.length_append, hml]; rfl, fun r hr => ?_, fun m row hm => ?_⟩, _, _, _, rfl⟩
        · rw [upd_ne (fun z => h4 (by rw [h1, z]))]
          exact k8.at_ h3
        · rcases List.mem_append.mp hr with hr | hr
          · exact hmr r hr
          · rw [List.mem_singleton.mp hr]; omega
        · rw [List.getElem?_append] at hm
          split at hm
          · exact hmo m row hm
          · rename_i hlt
            have hz : m - Ms.length = 0 := by
              cases z : m - Ms.length with
              | zero => rfl
              | succ q => rw [z] at hm; simp at hm
            rw [hz] at hm
            have hmk : m = j := by omega
            subst hmk
            rw [← Option.some.inj hm]
            exact hro
    · rintro σ H6 ⟨k6, ⟨rws, Ms, hL6, hpm, hml, hmr, hmo⟩, u6, u7, u8, rfl⟩
      obtain ⟨rows, g1, g2, g3, g4, g5⟩ := hM.keep k6
      refine ⟨_, rfl, _, rfl, dM Ms, dM M, .lst (SqL.of hL6) (dp_mat (fun v bs z => z.1.rw) hpm), .lst (SqL.of g1) (dp_mat (fun v bs z => z.rw) g3), dM_shaped _, dM_shaped _, _, rfl, ?_⟩
      have hF6 := k6.at_ hF4
      have k16 := k4.trans k6
      cases PyData.eqv (dM Ms) (dM M) with
      | true => exact iteT ⟨_, rfl, hQ H6 F ls l M (kB.trans k16) hF0 hF6 (hM.keep k6).mat⟩
      | false =>
        refine iteF ⟨_, rfl, .inl ⟨rfl, _, SqL.of hF6⟩, _, rfl, F, _, _, rfl, rfl, hF6, small_line (by rw [List.length_append, List.length_singleton]; omega), ?_⟩
        refine ⟨k16.upd0 hF1, ⟨ls ++ [.ref l], L, Ms, upd_same, by rw [List.length_append, List.length_singleton]; omega, MatF.updF ⟨rws, hL6, hLF, Paired.mapP hpm fun _ _ z => z.1, by omega, hmr⟩, hmo⟩, _, _, _, _, _, _, rfl⟩
  · rintro σ H4 ⟨k4, ⟨ls, l, M, hF4, hlen, hM, hMO⟩, u3, u4, u5, u6, u7, u8, rfl⟩
    exact ⟨_, rfl, hQ H4 F ls l M (kB.trans k4) hF0 hF4 hM.mat⟩
end
end Ap
set_option Elab.async false
set_option linter.all false
set_option maxRecDepth 100000
set_option maxHeartbeats 4000000
namespace Ap
open PySem PySem.Spec PyProof.Rows L2
abbrev N_law_bent : List Str := ["_law_well_here", "_law_paper", "_law_size", "_law_its_size", "_law_found", "_law_at", "_law_way", "_law_odd"]
theorem sc_law_bent : FnScope N_law_bent ["_law_well_here", "_law_paper", "_law_size", "_law_its_size"] (defScope s_law_bent) := ⟨rfl, rfl, rfl, by decide +kernel, rfl, by decide +kernel, by decide +kernel⟩

/-- what stood stands, or a list stays a list -/
def LK (H H' : Hp) : Prop := ∀ b o, H b = some o → H' b = some o ∨ ∃ xs ys, o = .lst xs ∧ H' b = some (.lst ys)
theorem LK.refl (H : Hp) : LK H H := fun _ _ h => .inl h
theorem LK.trans {H H1 H2 : Hp} (a : LK H H1) (b : LK H1 H2) : LK H H2 := fun c o h => by
  rcases a c o h with h2 | ⟨xs, ys, e1, h2⟩
  · exact b c o h2
  · rcases b c _ h2 with h3 | ⟨xs', ys', e, h3⟩
    · exact .inr ⟨xs, ys, e1, h3⟩
    · exact .inr ⟨xs, ys', e1, h3⟩
theorem Keep.lk {H H' : Hp} (k : Keep [] H H') : LK H H' := fun _ _ h => .inl (k.at_ h)
theorem WellV.lk {l : Addr} {H H' : Hp} (h : WellV H l) (h' : WellV H' l) (k : Keep [l] H H') : LK H H' := fun b o e => by
  by_cases q : b = l
  · subst q
    obtain ⟨x1, x2, x3, h⟩ := h
    obtain ⟨y1, y2, y3, h'⟩ := h'
    rw [h] at e
    cases Option.some.inj e
    exact .inr ⟨_, _, rfl, h'⟩
  · exact .inl (k.at1 q e)
theorem lk_upd {H : Hp} {F : Addr} {xs ys : List V} (h : H F = some (.lst xs)) : LK H (upd H F (.lst ys)) := fun b o e => by
  by_cases q : b = F
  · subst q
    rw [h] at e
    cases Option.some.inj e
    exact .inr ⟨_, _, rfl, upd_same⟩
  · exact .inl (by rw [upd_ne q]; exact e)
theorem LK.ext {H H' : Hp} (k : LK H H') : Ext H H' := fun b xs h => by
  rcases k b _ h with h | ⟨_, _, e, _⟩
  · exact h
  · cases e
theorem NonT.lk {C : Addr} {H H' : Hp} {v : V} (k : LK H H') (h : NonT C H v) : NonT C H' v := by
  cases h with
  | non => exact .non
  | int i => exact .int i
  | str x => exact .str x
  | lst e =>
    rcases k _ _ e with h | ⟨_, _, _, h⟩
    · exact .lst h
    · exact .lst h
  | dK e =>
    rcases k _ _ e with h | ⟨_, _, q, _⟩
    · exact .dK h
    · cases q
  | dT e =>
    rcases k _ _ e with h | ⟨_, _, q, _⟩
    · exact .dT h
    · cases q
  | gr e =>
    rcases k _ _ e with h | ⟨_, _, q, _⟩
    · exact .gr h
    · cases q
theorem ElV.lk {C : Addr} {a b : Nat} {H H' : Hp} {v : V} (k : LK H H') : ∀ {o : Option (Nat × Nat)}, ElV C a b H v o → ElV C a b H' v o
  | some _, h => ⟨h.1.ext k.ext, h.2⟩
  | none, h => by
    rcases h with h | ⟨q, us, h1, h2, h3⟩
    · exact .inl (h.lk k)
    · exact .inr ⟨q, us, h1, k.ext _ _ h2, h3⟩
theorem els_lk {C : Addr} {a b : Nat} {H H' : Hp} (k : LK H H') {us : List V} {ppr : Ppr} (h : Paired (ElV C a b H) us ppr) : Paired (ElV C a b H') us ppr := Paired.mapP h fun _ _ q => q.lk k
theorem paired_erase {α β : Type} {F : α → β → Prop} : ∀ {xs : List α} {ys : List β} (i : Nat), Paired F xs ys → Paired F (xs.eraseIdx i) (ys.eraseIdx i)
  | _, _, _, .nil => .nil
  | _, _, 0, .cons _ t => t
  | _, _, i + 1, .cons q t => .cons q (paired_erase i t)
theorem paired_rev {α β : Type} {F : α → β → Prop} : ∀ {xs : List α} {ys : List β}, Paired F xs ys → Paired F xs.reverse ys.reverse
  | _, _, .nil => .nil
  | _, _, .cons q t => by
    rw [List.reverse_cons, List.reverse_cons]
    exact paired_app q (paired_rev t)
def spBent (C : Addr) : Sp := fun vs H Q _ => ∃ (l q : Addr) (ws : List V) (ppr : Ppr) (a b : Nat), vs = [.ref l, .ref q, nV a, nV b] ∧ WellV H l ∧ q ≠ l ∧ H q = some (.lst ws) ∧ Paired (ElV C a b H) ws ppr ∧ ppr.length ≤ 9000 ∧ 0 < a ∧ a ≤ 1000 ∧ 0 < b ∧ b ≤ 1000 ∧
  ∀ H' p ws' ppr', Keep [l] H H' → WellV H' l → H p = none → H' p = some (.lst ws') → Paired (ElV C a b H') ws' ppr' → ppr'.length ≤ ppr.length + 1 → Q (.ref p) H'
theorem from_hi {a : Nat} : fromB (nV a) 0 ((a : Int) - 1) = false := by
  show (decide ((0 : Int) ≤ (a : Int)) && decide ((a : Int) ≤ (a : Int) - 1)) = false
  rw [decide_eq_false (show ¬ (a : Int) ≤ (a : Int) - 1 by omega), Bool.and_false]
theorem from_neg {a : Int} : fromB (.int (0 - 1)) 0 a = false := rfl
def rIns : V → List V → Hp → VK → Prop := fun x vs H Q => ∃ (l : Addr) (xs : List V) (i : Int) (y : V), x = .ref l ∧ vs = [.int i, y] ∧ H l = some (.lst xs) ∧ xs.length < sizeLine ∧ 0 ≤ i ∧ i < 2 ^ 63 ∧
    Q .non (upd H l (.lst (xs.take i.toNat ++ [y] ++ xs.drop i.toNat)))
section
variable {P : Program} {w : World} {K : PySem.W.Frag} {mg : Str → Option Value} {base : Heap}
theorem w_law_bent {C : Addr} (T : Txt K mg) (GG : GC K mg C) (c_law_draw : Cl P w K mg base 1 "_law_draw" spDraw) (c_law_one : Cl P w K mg base 2 "_law_one" spOne) (D : Dn K mg "_law_bent" s_law_bent) : Cl P w K mg base 3 "_law_bent" (spBent C) := by
  refine cl_of D sc_law_bent (fun vs H Q E h => ?_) (fun _ _ _ _ _ _ us hl => match us, hl with | [_, _, _, _], _ => rfl) fun f cdv A outer s H vs Q E hr h => ?_
  · obtain ⟨l, q, ws, ppr, a, b, rfl, _⟩ := h
    rfl
  obtain ⟨l, q, ws, ppr, a, b, rfl, wv, hql, hq, hp, hlen, ha0, ha1, hb0, hb1, hQ⟩ := h
  have wl := paired_len hp
  refine ⟨_, PSs.nox (pss_cons (ps_par3 (by rfl) sc_law_bent.nd (i := 4) (j := 5) (l := 6) rfl rfl rfl (by decide) (by decide) (by decide) rfl rfl rfl (pa_cons (pe_callTy call_list_of (by rfl) T.list_ PyProof.Rows.boot_list (pa_cons (pv 1) pa_nil)) (pa_cons (pe_cl c_law_draw hr (by decide) rfl (pa_cons (pv 0) (pa_cons (pe_op op_add (pe_callB call_len (by rfl) T.len_ PySem.boot_len (pa_cons (pv 1) pa_nil)) pe_int) pa_nil))) (pa_cons (pe_cl c_law_draw hr (by decide) rfl (pa_cons (pv 0) (pa_cons pe_int pa_nil))) pa_nil))) (by rfl)) (pss_cons (ps_set (i := 7) sc_law_bent.nd rfl (Or.inl rfl) (pe_lst (pa_cons pe_non (pa_cons pe_int (pa_cons (pe_tup pa_nil) (pa_cons (pe_tup (pa_cons pe_int pa_nil)) (pa_cons (pe_lst (pa_cons pe_int (pa_cons pe_int pa_nil))) (pa_cons (pe_tup (pa_cons pe_int (pa_cons pe_int (pa_cons pe_int pa_nil)))) (pa_cons (pe_tup (pa_cons pe_bl (pa_cons pe_int pa_nil))) (pa_cons (pe_tup (pa_cons pe_int (pa_cons pe_bl pa_nil))) (pa_cons (pe_tup (pa_cons pe_str (pa_cons pe_int pa_nil))) (pa_cons pe_dnewT pa_nil)))))))))))) (pss_cons (ps_set (i := 7) sc_law_bent.nd rfl (Or.inl rfl) (pe_op op_cat (pv 7) (pe_lst (pa_cons (pe_tup (pa_cons (pv 2) (pa_cons pe_int pa_nil))) (pa_cons (pe_tup (pa_cons pe_int (pa_cons (pv 3) pa_nil))) (pa_cons (pe_tup (pa_cons (pe_op op_sub pe_int pe_int) (pa_cons pe_int pa_nil))) pa_nil)))))) (pss_cons (ps_if (PW.pt (pw_and (pt_cmpR op_eq (pv 6) pe_int (nomark _)) (pw_and1 (pt_cmpR op_lt (pv 5) (pe_callB call_len (by rfl) T.len_ PySem.boot_len (pa_cons (pv 4) pa_nil)) (nomark _))))) (pss_one (ps_expr (pe_bm PySem.F.plainAttrs_list PySem.F.slot_list_pop PySem.F.type_list_pop mt_popAt (pv 4) (pa_cons (pv 5) pa_nil)))) (pss_one (ps_if (PW.pt (pw_and (pt_cmpR op_eq (pv 6) pe_int (nomark _)) (pw_and1 (pt_cmpR op_lt (pv 5) (pe_callB call_len (by rfl) T.len_ PySem.boot_len (pa_cons (pv 4) pa_nil)) (nomark _))))) (pss_one (ps_expr (pe_bm PySem.F.plainAttrs_list PySem.F.slot_list_insert PySem.F.type_list_insert mt_insert (pv 4) (pa_cons (pe_cl c_law_draw hr (by decide) rfl (pa_cons (pv 0) (pa_cons (pe_op op_add (pe_callB call_len (by rfl) T.len_ PySem.boot_len (pa_cons (pv 4) pa_nil)) pe_int) pa_nil))) (pa_cons (pe_ix ix_list (pv 4) (pv 5) (fun _ _ => rfl)) pa_nil))))) (pss_one (ps_if (PW.pt (pw_and (pt_cmpR op_eq (pv 6) pe_int (nomark _)) (pw_and1 (pt_cmpR op_lt (pv 5) (pe_callB call_len (by rfl) T.len_ PySem.boot_len (pa_cons (pv 4) pa_nil)) (nomark _))))) (pss_one (ps_asg (pe_ifExp (pt_val (pe_callB call_isi (by rfl) T.isi_ PyProof.Rows.boot_isinstance (pa_cons (pe_ix ix_list (pv 4) (pv 5) (fun _ _ => rfl)) (pa_cons (pe_bltn (v := .ty "tuple") (by rfl) T.tuple_ PyProof.Rows.boot_tuple rfl) pa_nil)))) (pe_callTy call_list_of (by rfl) T.list_ PyProof.Rows.boot_list (pa_cons (pe_ix ix_list (pv 4) (pv 5) (fun _ _ => rfl)) pa_nil)) (pe_ix ix_list (pv 4) (pv 5) (fun _ _ => rfl))) (pg_sub (pv 4) (pv 5) set_list))) (pss_one (ps_if (pt_cmpR op_eq (pv 6) pe_int (nomark _)) (pss_one (ps_expr (pe_bm PySem.F.plainAttrs_list PySem.F.slot_list_insert PySem.F.type_list_insert mt_insert (pv 4) (pa_cons (pv 5) (pa_cons (pe_cl c_law_one hr (by decide) rfl (pa_cons (pv 0) (pa_cons (pv 7) pa_nil))) pa_nil))))) (pss_one (ps_if (pt_cmpR op_eq (pv 6) pe_int (nomark _)) (pss_one (ps_expr (pe_bm PySem.F.plainAttrs_list PySem.F.slot_list_insert PySem.F.type_list_insert mt_insert (pv 4) (pa_cons (pv 5) (pa_cons (pe_tup (pa_cons (pe_cl c_law_draw hr (by decide) rfl (pa_cons (pv 0) (pa_cons (pv 2) pa_nil))) (pa_cons (pe_cl c_law_draw hr (by decide) rfl (pa_cons (pv 0) (pa_cons (pv 3) pa_nil))) pa_nil))) pa_nil))))) (pss_one (ps_set (i := 4) sc_law_bent.nd rfl (Or.inl rfl) (pe_revL (pv 4))))))))))))) (pss_one (ps_ret (pv 4))))))), ?_⟩
  refine ⟨_, rfl, q, ws, rfl, .inl (SqL.of hq), fun F hF => ?_⟩
  have kF : Keep [] H (upd H F (.lst ws)) := keep_new hF
  have hFl := wv.ne hF
  have wvF := wv.keep kF
  have hF1 : upd H F (.lst ws) F = some (.lst ws) := upd_same
  have hpF := els_keep kF hp
  generalize upd H F (.lst ws) = H1 at *
  refine ⟨_, rfl, _, rfl, _, ws.length, rfl, .inl ⟨_, SqL.of (kF.at_ hq), rfl⟩, _, _, rfl, rfl, l, ws.length + 1, by push_cast; rfl, wvF, by omega, by omega, fun H2 at_ k2 wv2 hat => ?_⟩
  refine ⟨_, rfl, l, 6, rfl, wv2, by decide, by decide, fun H3 way k3 wv3 hway => ⟨_, _, _, rfl, ?_⟩⟩
  have kk := k2.trans k3
  have hF3 := kk.at1 hFl hF1
  have hp3 := els_lk (wvF.lk wv3 kk) hpF
  have kA : Keep [l] H H3 := (kF.more).trans kk
  have k0 : Keep [] H3 H3 := Keep.refl _ _
  refine ⟨(by show 0 ≤ sizeLine; decide), fun t1 ht1 => ?_⟩
  have kt1 : Keep [] H3 (upd H3 t1 (.tup [])) := keep_new ht1
  have et1 : upd H3 t1 (.tup []) t1 = some (.tup []) := upd_same
  replace k0 := k0.trans kt1
  generalize upd H3 t1 (.tup []) = G1 at *
  refine ⟨(by show 1 ≤ sizeLine; decide), fun t2 ht2 => ?_⟩
  have kt2 : Keep [] G1 (upd G1 t2 (.tup [.int 0])) := keep_new ht2
  have et2 : upd G1 t2 (.tup [.int 0]) t2 = some (.tup [.int 0]) := upd_same
  replace et1 := kt2.at_ et1
  replace k0 := k0.trans kt2
  generalize upd G1 t2 (.tup [.int 0]) = G2 at *
  refine ⟨(by show 2 ≤ sizeLine; decide), fun t3 ht3 => ?_⟩
  have kt3 : Keep [] G2 (upd G2 t3 (.lst [.int 0, .int 0])) := keep_new ht3
  have et3 : upd G2 t3 (.lst [.int 0, .int 0]) t3 = some (.lst [.int 0, .int 0]) := upd_same
  replace et1 := kt3.at_ et1
  replace et2 := kt3.at_ et2
  replace k0 := k0.trans kt3
  generalize upd G2 t3 (.lst [.int 0, .int 0]) = G3 at *
  refine ⟨(by show 3 ≤ sizeLine; decide), fun t4 ht4 => ?_⟩
  have kt4 : Keep [] G3 (upd G3 t4 (.tup [.int 0, .int 0, .int 0])) := keep_new ht4
  have et4 : upd G3 t4 (.tup [.int 0, .int 0, .int 0]) t4 = some (.tup [.int 0, .int 0, .int 0]) := upd_same
  replace et1 := kt4.at_ et1
  replace et2 := kt4.at_ et2
  replace et3 := kt4.at_ et3
  replace k0 := k0.trans kt4
  generalize upd G3 t4 (.tup [.int 0, .int 0, .int 0]) = G4 at *
  refine ⟨(by show 2 ≤ sizeLine; decide), fun t5 ht5 => ?_⟩
  have kt5 : Keep [] G4 (upd G4 t5 (.tup [.bl true, .int 0])) := keep_new ht5
  have et5 : upd G4 t5 (.tup [.bl true, .int 0]) t5 = some (.tup [.bl true, .int 0]) := upd_same
  replace et1 := kt5.at_ et1
  replace et2 := kt5.at_ et2
  replace et3 := kt5.at_ et3
  replace et4 := kt5.at_ et4
  replace k0 := k0.trans kt5
  generalize upd G4 t5 (.tup [.bl true, .int 0]) = G5 at *
  refine ⟨(by show 2 ≤ sizeLine; decide), fun t6 ht6 => ?_⟩
  have kt6 : Keep [] G5 (upd G5 t6 (.tup [.int 0, .bl false])) := keep_new ht6
  have et6 : upd G5 t6 (.tup [.int 0, .bl false]) t6 = some (.tup [.int 0, .bl false]) := upd_same
  replace et1 := kt6.at_ et1
  replace et2 := kt6.at_ et2
  replace et3 := kt6.at_ et3
  replace et4 := kt6.at_ et4
  replace et5 := kt6.at_ et5
  replace k0 := k0.trans kt6
  generalize upd G5 t6 (.tup [.int 0, .bl false]) = G6 at *
  refine ⟨(by show 2 ≤ sizeLine; decide), fun t7 ht7 => ?_⟩
  have kt7 : Keep [] G6 (upd G6 t7 (.tup [.str "0", .int 0])) := keep_new ht7
  have et7 : upd G6 t7 (.tup [.str "0", .int 0]) t7 = some (.tup [.str "0", .int 0]) := upd_same
  replace et1 := kt7.at_ et1
  replace et2 := kt7.at_ et2
  replace et3 := kt7.at_ et3
  replace et4 := kt7.at_ et4
  replace et5 := kt7.at_ et5
  replace et6 := kt7.at_ et6
  replace k0 := k0.trans kt7
  generalize upd G6 t7 (.tup [.str "0", .int 0]) = G7 at *
  refine fun t8 ht8 => ?_
  have kt8 : Keep [] G7 (upd G7 t8 (.dT [])) := keep_new ht8
  have et8 : upd G7 t8 (.dT []) t8 = some (.dT []) := upd_same
  replace et1 := kt8.at_ et1
  replace et2 := kt8.at_ et2
  replace et3 := kt8.at_ et3
  replace et4 := kt8.at_ et4
  replace et5 := kt8.at_ et5
  replace et6 := kt8.at_ et6
  replace et7 := kt8.at_ et7
  replace k0 := k0.trans kt8
  generalize upd G7 t8 (.dT []) = G8 at *
  refine ⟨(by show 10 ≤ sizeLine; decide), fun o1 ho1 => ?_⟩
  have ko1 : Keep [] G8 (upd G8 o1 (.lst [.non, .int 5, .ref t1, .ref t2, .ref t3, .ref t4, .ref t5, .ref t6, .ref t7, .ref t8])) := keep_new ho1
  have eo1 : upd G8 o1 (.lst [.non, .int 5, .ref t1, .ref t2, .ref t3, .ref t4, .ref t5, .ref t6, .ref t7, .ref t8]) o1 = some (.lst [.non, .int 5, .ref t1, .ref t2, .ref t3, .ref t4, .ref t5, .ref t6, .ref t7, .ref t8]) := upd_same
  replace et1 := ko1.at_ et1
  replace et2 := ko1.at_ et2
  replace et3 := ko1.at_ et3
  replace et4 := ko1.at_ et4
  replace et5 := ko1.at_ et5
  replace et6 := ko1.at_ et6
  replace et7 := ko1.at_ et7
  replace et8 := ko1.at_ et8
  replace k0 := k0.trans ko1
  generalize upd G8 o1 (.lst [.non, .int 5, .ref t1, .ref t2, .ref t3, .ref t4, .ref t5, .ref t6, .ref t7, .ref t8]) = G9 at *
  refine ⟨_, rfl, ?_⟩
  refine ⟨_, rfl, (by show 2 ≤ sizeLine; decide), fun t9 ht9 => ?_⟩
  have kt9 : Keep [] G9 (upd G9 t9 (.tup [nV a, .int 0])) := keep_new ht9
  have et9 : upd G9 t9 (.tup [nV a, .int 0]) t9 = some (.tup [nV a, .int 0]) := upd_same
  replace et1 := kt9.at_ et1
  replace et2 := kt9.at_ et2
  replace et3 := kt9.at_ et3
  replace et4 := kt9.at_ et4
  replace et5 := kt9.at_ et5
  replace et6 := kt9.at_ et6
  replace et7 := kt9.at_ et7
  replace et8 := kt9.at_ et8
  replace eo1 := kt9.at_ eo1
  replace k0 := k0.trans kt9
  generalize upd G9 t9 (.tup [nV a, .int 0]) = G10 at *
  refine ⟨_, rfl, (by show 2 ≤ sizeLine; decide), fun t10 ht10 => ?_⟩
  have kt10 : Keep [] G10 (upd G10 t10 (.tup [.int 0, nV b])) := keep_new ht10
  have et10 : upd G10 t10 (.tup [.int 0, nV b]) t10 = some (.tup [.int 0, nV b]) := upd_same
  replace et1 := kt10.at_ et1
  replace et2 := kt10.at_ et2
  replace et3 := kt10.at_ et3
  replace et4 := kt10.at_ et4
  replace et5 := kt10.at_ et5
  replace et6 := kt10.at_ et6
  replace et7 := kt10.at_ et7
  replace et8 := kt10.at_ et8
  replace eo1 := kt10.at_ eo1
  replace et9 := kt10.at_ et9
  replace k0 := k0.trans kt10
  generalize upd G10 t10 (.tup [.int 0, nV b]) = G11 at *
  refine ⟨_, _, rfl, rfl, (by show 2 ≤ sizeLine; decide), fun t11 ht11 => ?_⟩
  have kt11 : Keep [] G11 (upd G11 t11 (.tup [.int (0 - 1), .int 0])) := keep_new ht11
  have et11 : upd G11 t11 (.tup [.int (0 - 1), .int 0]) t11 = some (.tup [.int (0 - 1), .int 0]) := upd_same
  replace et1 := kt11.at_ et1
  replace et2 := kt11.at_ et2
  replace et3 := kt11.at_ et3
  replace et4 := kt11.at_ et4
  replace et5 := kt11.at_ et5
  replace et6 := kt11.at_ et6
  replace et7 := kt11.at_ et7
  replace et8 := kt11.at_ et8
  replace eo1 := kt11.at_ eo1
  replace et9 := kt11.at_ et9
  replace et10 := kt11.at_ et10
  replace k0 := k0.trans kt11
  generalize upd G11 t11 (.tup [.int (0 - 1), .int 0]) = G12 at *
  refine ⟨(by show 3 ≤ sizeLine; decide), fun o2 ho2 => ?_⟩
  have ko2 : Keep [] G12 (upd G12 o2 (.lst [.ref t9, .ref t10, .ref t11])) := keep_new ho2
  have eo2 : upd G12 o2 (.lst [.ref t9, .ref t10, .ref t11]) o2 = some (.lst [.ref t9, .ref t10, .ref t11]) := upd_same
  replace et1 := ko2.at_ et1
  replace et2 := ko2.at_ et2
  replace et3 := ko2.at_ et3
  replace et4 := ko2.at_ et4
  replace et5 := ko2.at_ et5
  replace et6 := ko2.at_ et6
  replace et7 := ko2.at_ et7
  replace et8 := ko2.at_ et8
  replace eo1 := ko2.at_ eo1
  replace et9 := ko2.at_ et9
  replace et10 := ko2.at_ et10
  replace et11 := ko2.at_ et11
  replace k0 := k0.trans ko2
  generalize upd G12 o2 (.lst [.ref t9, .ref t10, .ref t11]) = G13 at *
  refine ⟨o1, o2, _, _, rfl, rfl, eo1, eo2, (by show 13 ≤ sizeLine; decide), fun o3 ho3 => ?_⟩
  have ko3 : Keep [] G13 (upd G13 o3 (.lst [.non, .int 5, .ref t1, .ref t2, .ref t3, .ref t4, .ref t5, .ref t6, .ref t7, .ref t8, .ref t9, .ref t10, .ref t11])) := keep_new ho3
  have eo3 : upd G13 o3 (.lst [.non, .int 5, .ref t1, .ref t2, .ref t3, .ref t4, .ref t5, .ref t6, .ref t7, .ref t8, .ref t9, .ref t10, .ref t11]) o3 = some (.lst [.non, .int 5, .ref t1, .ref t2, .ref t3, .ref t4, .ref t5, .ref t6, .ref t7, .ref t8, .ref t9, .ref t10, .ref t11]) := upd_same
  replace et1 := ko3.at_ et1
  replace et2 := ko3.at_ et2
  replace et3 := ko3.at_ et3
  replace et4 := ko3.at_ et4
  replace et5 := ko3.at_ et5
  replace et6 := ko3.at_ et6
  replace et7 := ko3.at_ et7
  replace et8 := ko3.at_ et8
  replace eo1 := ko3.at_ eo1
  replace et9 := ko3.at_ et9
  replace et10 := ko3.at_ et10
  replace et11 := ko3.at_ et11
  replace eo2 := ko3.at_ eo2
  replace k0 := k0.trans ko3
  show tSeq _ _ _ _ (upd G13 o3 (.lst [.non, .int 5, .ref t1, .ref t2, .ref t3, .ref t4, .ref t5, .ref t6, .ref t7, .ref t8, .ref t9, .ref t10, .ref t11]))
  generalize upd G13 o3 (.lst [.non, .int 5, .ref t1, .ref t2, .ref t3, .ref t4, .ref t5, .ref t6, .ref t7, .ref t8, .ref t9, .ref t10, .ref t11]) = G at *
  have odd : ∀ v ∈ ([.non, .int 5, .ref t1, .ref t2, .ref t3, .ref t4, .ref t5, .ref t6, .ref t7, .ref t8, .ref t9, .ref t10, .ref t11] : List V), ElV C a b G v none := by
    intro v hv
    simp only [List.mem_cons, List.not_mem_nil, or_false] at hv
    rcases hv with rfl | rfl | rfl | rfl | rfl | rfl | rfl | rfl | rfl | rfl | rfl | rfl | rfl
    · exact .inl .non
    · exact .inl (.int 5)
    · exact .inr ⟨t1, _, rfl, et1, .inl ⟨by decide, by decide⟩⟩
    · exact .inr ⟨t2, _, rfl, et2, .inl ⟨(by show 1 ≠ 2; decide), (by show 1 ≤ 100; decide)⟩⟩
    · exact .inl (.lst et3)
    · exact .inr ⟨t4, _, rfl, et4, .inl ⟨(by show 3 ≠ 2; decide), (by show 3 ≤ 100; decide)⟩⟩
    · exact .inr ⟨t5, _, rfl, et5, .inr ⟨_, _, rfl, .bl _, .int _, rfl⟩⟩
    · exact .inr ⟨t6, _, rfl, et6, .inr ⟨_, _, rfl, .int _, .bl _, Bool.and_false _⟩⟩
    · exact .inr ⟨t7, _, rfl, et7, .inr ⟨_, _, rfl, .str _, .int _, rfl⟩⟩
    · exact .inl (.dT et8)
    · exact .inr ⟨t9, _, rfl, et9, .inr ⟨_, _, rfl, .int _, .int _, by rw [from_hi, Bool.false_and]⟩⟩
    · exact .inr ⟨t10, _, rfl, et10, .inr ⟨_, _, rfl, .int _, .int _, by rw [from_hi, Bool.and_false]⟩⟩
    · exact .inr ⟨t11, _, rfl, et11, .inr ⟨_, _, rfl, .int _, .int _, by rw [from_neg, Bool.false_and]⟩⟩
  have hol : o3 ≠ l := fun z => by
    subst z
    obtain ⟨x1, x2, x3, hw⟩ := wv3.keep k0
    rw [hw] at eo3
    cases eo3
  have hFG := k0.at_ hF3
  have wvG := wv3.keep k0
  have hpG := els_keep k0 hp3
  have kG : Keep [l] H G := kA.trans k0.more
  clear k0 eo1 eo2
  have ret : ∀ (H' : Hp) (ws' : List V) (ppr' : Ppr), Keep [l] H H' → WellV H' l → H' F = some (.lst ws') → Paired (ElV C a b H') ws' ppr' → ppr'.length ≤ ppr.length + 1 → Q (.ref F) H' := fun H' ws' ppr' k1 w1 h1 h2 h3 => hQ H' F ws' ppr' k1 w1 hF h1 h2 h3
  have rg : at_ ≤ ws.length := by omega
  have el : ∀ (h : at_ < ws.length), ∃ o, ppr[at_]? = some o ∧ ElV C a b G (ws[at_]) o := fun h => paired_get hpG (List.getElem?_eq_getElem h)
  have ins : ∀ (H5 : Hp) (i : Nat) (v : V) (o : Option (Nat × Nat)), i ≤ ws.length → Keep [l] G H5 → WellV H5 l → ElV C a b H5 v o → rIns (.ref F) [nV i, v] H5 fun _ H6 => Q (.ref F) H6 := by
    intro H5 i v o hi k5 wv5 hv
    have hF5 := k5.at1 hFl hFG
    have lk5 := wvG.lk wv5 k5
    have lk6 : LK H5 (upd H5 F (.lst (ws.take i ++ [v] ++ ws.drop i))) := lk_upd hF5
    refine ⟨F, ws, _, v, rfl, rfl, hF5, small_line (by omega), by omega, by omega, ?_⟩
    refine ret _ _ (ppr.take i ++ [o] ++ ppr.drop i) ((kG.trans k5).upd0 hF) (wv5.upd hFl) upd_same (els_lk lk6 (paired_cat (paired_drop i (els_lk lk5 hpG)) (paired_app hv (paired_take i (els_lk lk5 hpG))))) ?_
    simp only [List.length_append, List.length_take, List.length_drop, List.length_singleton]
    omega
  have hcase : way = 0 ∨ way = 1 ∨ way = 2 ∨ way = 3 ∨ way = 4 ∨ way = 5 := by omega
  rcases hcase with rfl | rfl | rfl | rfl | rfl | rfl
  · refine ⟨_, rfl, rfl, _, rfl, iteT ⟨_, rfl, _, rfl, _, ws.length, rfl, .inl ⟨_, SqL.of hFG, rfl⟩, _, _, rfl, rfl, _, rfl, ?_⟩⟩
    by_cases hlt : at_ < ws.length
    · rw [decide_eq_true (show (at_ : Int) < (ws.length : Int) by omega)]
      refine iteT ⟨_, rfl, .inl ⟨rfl, _, SqL.of hFG⟩, _, rfl, F, ws, _, at_, ws[at_], rfl, rfl, hFG, by omega, by omega, (ixN_seq (ixn hlt)).1, List.getElem?_eq_getElem hlt, ?_⟩
      exact ⟨_, rfl, ret _ _ (ppr.eraseIdx at_) (kG.upd0 hF) (wvG.upd hFl) upd_same (els_lk (lk_upd hFG) (paired_erase at_ hpG)) (by have := List.length_eraseIdx_le ppr at_; omega)⟩
    · rw [decide_eq_false (show ¬ (at_ : Int) < (ws.length : Int) by omega)]
      refine iteF ?_
      refine ⟨_, rfl, rfl, _, rfl, iteF (iteF ?_)⟩
      refine ⟨_, rfl, rfl, _, rfl, iteF (iteF ?_)⟩
      refine ⟨_, rfl, rfl, _, rfl, iteF ?_⟩
      refine ⟨_, rfl, rfl, _, rfl, iteF ?_⟩
      refine ⟨_, rfl, F, ws, rfl, SqL.of hFG, fun p hp => ?_⟩
      have kp : Keep [] G (upd G p (.lst ws.reverse)) := keep_new hp
      exact ⟨_, rfl, hQ _ p ws.reverse ppr.reverse (kG.trans kp.more) (wvG.keep kp) (none_ofw kG (wvG.ne hp) hp) upd_same (paired_rev (els_keep kp hpG)) (by rw [List.length_reverse]; omega)⟩
  · refine ⟨_, rfl, rfl, _, rfl, iteF (iteF ?_)⟩
    refine ⟨_, rfl, rfl, _, rfl, iteT ⟨_, rfl, _, rfl, _, ws.length, rfl, .inl ⟨_, SqL.of hFG, rfl⟩, _, _, rfl, rfl, _, rfl, ?_⟩⟩
    by_cases hlt : at_ < ws.length
    · rw [decide_eq_true (show (at_ : Int) < (ws.length : Int) by omega)]
      obtain ⟨o, ho, hv⟩ := el hlt
      refine iteT ⟨_, rfl, .inl ⟨rfl, _, SqL.of hFG⟩, _, rfl, _, rfl, _, ws.length, rfl, .inl ⟨_, SqL.of hFG, rfl⟩, _, _, rfl, rfl, l, ws.length + 1, by push_cast; rfl, wvG, by omega, by omega, fun H5 r k5 wv5 hr5 => ?_⟩
      refine ⟨_, rfl, _, rfl, F, ws, _, ws[at_], rfl, rfl, SqL.of (k5.at1 hFl hFG), atI_nat (List.getElem?_eq_getElem hlt), ?_⟩
      obtain ⟨F', xs', i', y', z1, z2, z3, z4, z5, z6, z7⟩ := ins H5 r ws[at_] o (by omega) k5 wv5 (hv.lk (wvG.lk wv5 k5))
      exact ⟨F', xs', i', y', z1, z2, z3, z4, z5, z6, _, rfl, z7⟩
    · rw [decide_eq_false (show ¬ (at_ : Int) < (ws.length : Int) by omega)]
      refine iteF ?_
      refine ⟨_, rfl, rfl, _, rfl, iteF (iteF ?_)⟩
      refine ⟨_, rfl, rfl, _, rfl, iteF ?_⟩
      refine ⟨_, rfl, rfl, _, rfl, iteF ?_⟩
      refine ⟨_, rfl, F, ws, rfl, SqL.of hFG, fun p hp => ?_⟩
      have kp : Keep [] G (upd G p (.lst ws.reverse)) := keep_new hp
      exact ⟨_, rfl, hQ _ p ws.reverse ppr.reverse (kG.trans kp.more) (wvG.keep kp) (none_ofw kG (wvG.ne hp) hp) upd_same (paired_rev (els_keep kp hpG)) (by rw [List.length_reverse]; omega)⟩
  · refine ⟨_, rfl, rfl, _, rfl, iteF (iteF ?_)⟩
    refine ⟨_, rfl, rfl, _, rfl, iteF (iteF ?_)⟩
    refine ⟨_, rfl, rfl, _, rfl, iteT ⟨_, rfl, _, rfl, _, ws.length, rfl, .inl ⟨_, SqL.of hFG, rfl⟩, _, _, rfl, rfl, _, rfl, ?_⟩⟩
    by_cases hlt : at_ < ws.length
    · rw [decide_eq_true (show (at_ : Int) < (ws.length : Int) by omega)]
      obtain ⟨o, ho, hv⟩ := el hlt
      have hat' : atI ws (at_ : Int) = some ws[at_] := atI_nat (List.getElem?_eq_getElem hlt)
      have cs : (∃ q us, ws[at_] = .ref q ∧ G q = some (.tup us)) ∨ NonT C G ws[at_] := by
        cases o with
        | some p =>
          obtain ⟨⟨q, e1, e2⟩, _⟩ := hv
          exact .inl ⟨q, _, e1, e2⟩
        | none =>
          rcases hv with hv | ⟨q, us, h1, h2, _⟩
          · exact .inr hv
          · exact .inl ⟨q, us, h1, h2⟩
      refine iteT ⟨_, rfl, _, rfl, F, ws, _, ws[at_], rfl, rfl, SqL.of hFG, hat', ?_⟩
      rcases cs with ⟨q0, us, e1, e2⟩ | hn
      · rw [e1]
        refine ⟨.ref q0, .ty "tuple", .type "tuple", .type "tuple", true, rfl, .ty "tuple", .base (.tup e2), kit_ty (by decide +kernel), _, rfl, iteT ?_⟩
        refine ⟨_, rfl, _, rfl, F, ws, _, _, rfl, rfl, SqL.of hFG, hat', q0, us, by rw [e1], .inr (SqT.of e2), fun p hp => ?_⟩
        have kp : Keep [] G (upd G p (.lst us)) := keep_new hp
        have hFp := kp.at_ hFG
        have hep : upd G p (.lst us) p = some (.lst us) := upd_same
        refine ⟨_, rfl, _, rfl, F, ws, _, at_, rfl, rfl, hFp, ixn hlt, ?_⟩
        have lk6 : LK (upd G p (.lst us)) (upd (upd G p (.lst us)) F (.lst (ws.set at_ (.ref p)))) := lk_upd hFp
        exact ⟨_, rfl, ret _ _ (ppr.set at_ none) ((kG.trans kp.more).upd0 hF) ((wvG.keep kp).upd hFl) upd_same (els_lk lk6 (paired_set (F := ElV C a b (upd G p (.lst us))) (show ElV C a b (upd G p (.lst us)) (.ref p) none from .inl (.lst hep)) at_ (els_keep kp hpG))) (by rw [List.length_set]; omega)⟩
      · obtain ⟨ty, t1', t2'⟩ := kit_of_tuple GG hn
        refine ⟨ws[at_], .ty "tuple", ty, .type "tuple", false, rfl, .ty "tuple", t1', t2', _, rfl, iteF ?_⟩
        refine ⟨_, rfl, _, rfl, F, ws, _, ws[at_], rfl, rfl, SqL.of hFG, hat', ?_⟩
        refine ⟨_, rfl, _, rfl, F, ws, _, at_, rfl, rfl, hFG, ixn hlt, ?_⟩
        exact ⟨_, rfl, ret _ _ (ppr.set at_ o) (kG.upd0 hF) (wvG.upd hFl) upd_same (els_lk (lk_upd hFG) (paired_set (F := ElV C a b G) hv at_ hpG)) (by rw [List.length_set]; omega)⟩
    · rw [decide_eq_false (show ¬ (at_ : Int) < (ws.length : Int) by omega)]
      refine iteF ?_
      refine ⟨_, rfl, rfl, _, rfl, iteF ?_⟩
      refine ⟨_, rfl, rfl, _, rfl, iteF ?_⟩
      refine ⟨_, rfl, F, ws, rfl, SqL.of hFG, fun p hp => ?_⟩
      have kp : Keep [] G (upd G p (.lst ws.reverse)) := keep_new hp
      exact ⟨_, rfl, hQ _ p ws.reverse ppr.reverse (kG.trans kp.more) (wvG.keep kp) (none_ofw kG (wvG.ne hp) hp) upd_same (paired_rev (els_keep kp hpG)) (by rw [List.length_reverse]; omega)⟩
  · refine ⟨_, rfl, rfl, _, rfl, iteF (iteF ?_)⟩
    refine ⟨_, rfl, rfl, _, rfl, iteF (iteF ?_)⟩
    refine ⟨_, rfl, rfl, _, rfl, iteF (iteF ?_)⟩
    refine ⟨_, rfl, rfl, _, rfl, iteT ?_⟩
    refine ⟨_, rfl, .inl ⟨rfl, _, SqL.of hFG⟩, _, rfl, _, rfl, _, rfl, l, o3, _, rfl, wvG, eo3, hol, by simp, (by show 13 ≤ 100000; decide), fun H5 v k5 wv5 hv => ?_⟩
    obtain ⟨F', xs', i', y', z1, z2, z3, z4, z5, z6, z7⟩ := ins H5 at_ v none rg k5 wv5 ((odd v hv).lk (wvG.lk wv5 k5))
    exact ⟨F', xs', i', y', z1, z2, z3, z4, z5, z6, _, rfl, z7⟩
  · refine ⟨_, rfl, rfl, _, rfl, iteF (iteF ?_)⟩
    refine ⟨_, rfl, rfl, _, rfl, iteF (iteF ?_)⟩
    refine ⟨_, rfl, rfl, _, rfl, iteF (iteF ?_)⟩
    refine ⟨_, rfl, rfl, _, rfl, iteF ?_⟩
    refine ⟨_, rfl, rfl, _, rfl, iteT ?_⟩
    refine ⟨_, rfl, .inl ⟨rfl, _, SqL.of hFG⟩, _, rfl, _, rfl, _, rfl, l, a, rfl, wvG, ha0, by omega, fun H5 r k5 wv5 hr5 => ?_⟩
    refine ⟨_, rfl, _, rfl, l, b, rfl, wv5, hb0, by omega, fun H6 r6 k6 wv6 hr6 => ⟨(by show 2 ≤ sizeLine; decide), fun t ht => ?_⟩⟩
    have kt : Keep [] H6 (upd H6 t (.tup [nV r, nV r6])) := keep_new ht
    obtain ⟨F', xs', i', y', z1, z2, z3, z4, z5, z6, z7⟩ := ins (upd H6 t (.tup [nV r, nV r6])) at_ (.ref t) (some (r, r6)) rg ((k5.trans k6).trans kt.more) (wv6.keep kt) ⟨⟨t, rfl, upd_same⟩, hr5, hr6⟩
    exact ⟨F', xs', i', y', z1, z2, z3, z4, z5, z6, _, rfl, z7⟩
  · refine ⟨_, rfl, rfl, _, rfl, iteF (iteF ?_)⟩
    refine ⟨_, rfl, rfl, _, rfl, iteF (iteF ?_)⟩
    refine ⟨_, rfl, rfl, _, rfl, iteF (iteF ?_)⟩
    refine ⟨_, rfl, rfl, _, rfl, iteF ?_⟩
    refine ⟨_, rfl, rfl, _, rfl, iteF ?_⟩
    refine ⟨_, rfl, F, ws, rfl, SqL.of hFG, fun p hp => ?_⟩
    have kp : Keep [] G (upd G p (.lst ws.reverse)) := keep_new hp
    exact ⟨_, rfl, hQ _ p ws.reverse ppr.reverse (kG.trans kp.more) (wvG.keep kp) (none_ofw kG (wvG.ne hp) hp) upd_same (paired_rev (els_keep kp hpG)) (by rw [List.length_reverse]; omega)⟩
end
end Ap
set_option Elab.async false
set_option linter.all false
set_option maxRecDepth 100000
set_option maxHeartbeats 4000000
namespace Ap
open PySem PySem.Spec PyProof.Rows L2
abbrev N_law_right : List Str := ["_law_well_here", "_law_nodes_here", "_law_top", "_law_others", "_law_its_top", "_law_one_here", "_law_other", "_law_paper", "_law_is_one", "_law_kept", "_law_now", "_law_whole", "_law_by", "_law_mine", "_law_handed", "_law_some", "_law_turn", "_law_due_here", "_law_odd", "_law_its"]
theorem sc_law_right : FnScope N_law_right ["_law_well_here", "_law_nodes_here", "_law_top", "_law_others", "_law_its_top"] (defScope s_law_right) := ⟨rfl, rfl, rfl, by decide +kernel, rfl, by decide +kernel, by decide +kernel⟩

theorem GrAt.lk {C : Addr} {H H' : Hp} {g : Addr} {ns : List Nd} {n : Nat} (h : GrAt C H g ns n) (k : LK H H') : GrAt C H' g ns n := by
  obtain ⟨dx, t, vs, h1, h2, h3⟩ := h
  rcases k _ _ h1 with q | ⟨_, _, e, _⟩
  · exact ⟨dx, t, vs, q, k.ext _ _ h2, nds_ext k.ext h3⟩
  · cases e
theorem pair_el {C : Addr} {a b : Nat} {H : Hp} : ∀ {ws : List V} {ps : List (Nat × Nat)}, Paired (PairV H) ws ps → (∀ p ∈ ps, p.1 < a ∧ p.2 < b) → Paired (ElV C a b H) ws (ps.map some)
  | _, _, .nil, _ => .nil
  | _, _, .cons q t, h => .cons ⟨q, h _ (List.mem_cons_self ..)⟩ (pair_el t fun p hp => h p (List.mem_cons_of_mem _ hp))
def spRight (C : Addr) : Sp := fun vs H Q _ => ∃ (l a b : Addr) (us us2 : List V) (ns ms : List Nd) (n m : Nat), vs = [.ref l, .ref a, nV n, .ref b, nV m] ∧ WellV H l ∧ a ≠ l ∧ b ≠ l ∧ H a = some (.lst us) ∧ H b = some (.lst us2) ∧ Paired (NdV H) us ns ∧ Paired (NdV H) us2 ms ∧
  (∀ nd ∈ ns, Ng ns.length nd) ∧ (∀ nd ∈ ms, Ng ms.length nd) ∧ ns.length ≤ 6 ∧ ms.length ≤ 12 ∧ n < ns.length ∧ m < ms.length ∧ ∀ H', Keep [l] H H' → WellV H' l → Q (.bl true) H'
/-- only the well l and the list Hd change -/
structure In2 (l Hd : Addr) (H0 H : Hp) : Prop where
  keep : Keep [l, Hd] H0 H
  well : WellV H l
  hd : ∃ xs, H Hd = some (.lst xs)
theorem In2.lk {l Hd : Addr} {H0 H : Hp} (w0 : WellV H0 l) (h0 : ∃ xs, H0 Hd = some (.lst xs)) (i : In2 l Hd H0 H) : LK H0 H := fun b o e => by
  by_cases q : b = l
  · subst q
    obtain ⟨x1, x2, x3, h⟩ := w0
    obtain ⟨y1, y2, y3, h'⟩ := i.well
    rw [h] at e
    cases Option.some.inj e
    exact .inr ⟨_, _, rfl, h'⟩
  · by_cases q2 : b = Hd
    · subst q2
      obtain ⟨xs, h⟩ := h0
      obtain ⟨ys, h'⟩ := i.hd
      rw [h] at e
      cases Option.some.inj e
      exact .inr ⟨_, _, rfl, h'⟩
    · exact .inl (i.keep b o (by simp [q, q2]) e)
theorem In2.at_ {l Hd : Addr} {H0 H : Hp} (i : In2 l Hd H0 H) {b : Addr} {o : HO} (h1 : b ≠ l) (h2 : b ≠ Hd) (h : H0 b = some o) : H b = some o := i.keep b o (by simp [h1, h2]) h
theorem In2.step {l Hd : Addr} {H0 H H' : Hp} (i : In2 l Hd H0 H) (k : Keep [] H H') : In2 l Hd H0 H' := by
  obtain ⟨xs, h⟩ := i.hd
  exact ⟨i.keep.trans k.more, i.well.keep k, xs, k.at_ h⟩
theorem In2.stepw {l Hd : Addr} {H0 H H' : Hp} (i : In2 l Hd H0 H) (hne : Hd ≠ l) (k : Keep [l] H H') (w : WellV H' l) : In2 l Hd H0 H' := by
  obtain ⟨xs, h⟩ := i.hd
  exact ⟨i.keep.trans (k.mono fun b q => by rw [List.mem_singleton.mp q]; exact List.mem_cons_self ..), w, xs, k.at1 hne h⟩
theorem In2.upd {l Hd : Addr} {H0 H : Hp} (i : In2 l Hd H0 H) (hne : Hd ≠ l) {xs : List V} : In2 l Hd H0 (upd H Hd (.lst xs)) := ⟨i.keep.updm (by simp), i.well.upd hne, xs, upd_same⟩
theorem scal_j (o : Option Nat) : scal (jV o) (jV o) = true := by cases o <;> rfl
theorem j_ne (o : Option Nat) : (!decide (jV o = jV o)) = false := by simp
section
variable {K : PySem.W.Frag} {mg : Str → Option Value} {C : Addr} {H : Hp}
theorem no_non : NoSeq K H .non := fun H' _ => ⟨_, .base .non, kit_none (kit_ty (by decide +kernel)) (kit_ty (by decide +kernel))⟩
theorem no_int {i : Int} : NoSeq K H (.int i) := fun H' _ => ⟨_, .base (.int i), kit_none (kit_ty (by decide +kernel)) (kit_ty (by decide +kernel))⟩
theorem no_str {x : Str} : NoSeq K H (.str x) := fun H' _ => ⟨_, .base (.str x), kit_none (kit_ty (by decide +kernel)) (kit_ty (by decide +kernel))⟩
theorem no_dT {q : Addr} {kvs : List (List Key × V)} (h : H q = some (.dT kvs)) : NoSeq K H (.ref q) := fun H' k => ⟨_, .base (.dT (k.at_ h)), kit_none (kit_ty (by decide +kernel)) (kit_ty (by decide +kernel))⟩
theorem no_gr (GG : GC K mg C) {g : Addr} {ns : List Nd} {n : Nat} (h : GrAt C H g ns n) : NoSeq K H (.ref g) := fun H' k => by
  obtain ⟨dx, t, vs, h1, _⟩ := h.keep k
  exact ⟨_, .base (.ins h1 GG.cl GG.ha GG.hn GG.htk GG.hm), kit_none GG.noL GG.noT⟩
theorem NoSeq.keep {H' : Hp} {v : V} (h : NoSeq K H v) (k : Keep [] H H') : NoSeq K H' v := fun H2 k2 => h H2 (k.trans k2)
end
theorem Ng.lay {N : Nat} {n : Nd} (h : Ng N n) : Lay n := first_lay h.2.1 h.2.2.2
theorem shift_txt {b : Nat} {n : Nd} (h : TxtOk n) : TxtOk (n.shift b) := by cases n <;> exact h
section
variable {P : Program} {w : World} {K : PySem.W.Frag} {mg : Str → Option Value} {base : Heap}
theorem judge_nil {ns ms : List Nd} {n m : Nat} : judge ns ms n m [] = some 0 := by simp [judge, judgeGo, knownOf]
theorem judge_bad {ns ms : List Nd} {n m : Nat} : judge ns ms n m [none] = some 0 := by simp [judge, judgeGo]
/-- what stands ahead of the rounds -/
structure Pre (C : Addr) (H0 : Hp) (l a b : Addr) (ns ms : List Nd) (n m : Nat) (σ : L2.St) (H : Hp) : Prop where
  keep : Keep [l] H0 H
  well : WellV H l
  st : ∃ g h pv bb u9, σ = [some (.ref l), some (.ref a), some (nV n), some (.ref b), some (nV m), some (.ref g), some (.ref h), some pv, some (.bl bb), u9, none, none, none, none, none, none, none, none, none, none] ∧ GrAt C H g ns n ∧ GrAt C H h ms m ∧
    (bb = true → ∃ p ws ps, pv = .ref p ∧ p ≠ l ∧ H p = some (.lst ws) ∧ Paired (PairV H) ws ps ∧ (∀ q ∈ ps, q.1 < ns.length ∧ q.2 < ms.length) ∧ ps.length ≤ 2400)
theorem law_right_tail {C : Addr} (T : Txt K mg) (GG : GC K mg C) (c_law_side_by_side : Cl P w K mg base 2 "_law_side_by_side" spSide) (c_law_rounds : Cl P w K mg base 2 "_law_rounds" spLRounds) (c_law_due : Cl P w K mg base 3 "_law_due" (spDue C)) (c_judged : Cl P w K mg base 3 "judged" (spJudged K C)) (c_law_bent : Cl P w K mg base 3 "_law_bent" (spBent C))
    {f : Addr} {cdv : Value} {A : Around} {outer : List Env} {s : Shared} {H : Hp} {E : XK} (hr : Room 5 (A.deeper (envOfC "_law_right" (defScope s_law_right) s.heap.objs.size f cdv))) :
    ∃ t, PSs (cxOf CX0 P w K mg base N_law_right "_law_right" (defScope s_law_right) f cdv A outer s H E).nox.nox ((defBody s_law_right).drop 5) t ∧
      ∀ (l a b : Addr) (us us2 : List V) (ns ms : List Nd) (n m : Nat) (D : Ends) (σ : L2.St) (H1 : Hp), WellV H l → a ≠ l → b ≠ l → H a = some (.lst us) → H b = some (.lst us2) → Paired (NdV H) us ns → Paired (NdV H) us2 ms →
        (∀ nd ∈ ns, Ng ns.length nd) → (∀ nd ∈ ms, Ng ms.length nd) → ns.length ≤ 6 → ms.length ≤ 12 → n < ns.length → m < ms.length → (∀ H', Keep [l] H H' → WellV H' l → D.rt (.bl true) H') → Pre C H l a b ns ms n m σ H1 → t D σ H1 := by
  have hu := hu_of hr
  refine ⟨_, (pss_cons (ps_asg (pe_tup (pa_cons (pe_ix ix_list (pe_cl c_law_rounds hr (by decide) rfl (pa_cons (pe_cl c_law_side_by_side hr (by decide) rfl (pa_cons (pv 1) (pa_cons (pv 3) pa_nil))) pa_nil)) (pe_un un_neg pe_int) (fun _ _ => rfl)) (pa_cons (pe_lst pa_nil) (pa_cons (pe_callB call_len (by rfl) T.len_ PySem.boot_len (pa_cons (pv 1) pa_nil)) pa_nil)))) (pg_tup (by rfl) (pgs_cons (pg_name (i := 10) sc_law_right.nd rfl (Or.inr rfl)) (pgs_cons (pg_name (i := 11) sc_law_right.nd rfl (Or.inl rfl)) (pgs_cons (pg_name (i := 12) sc_law_right.nd rfl (Or.inr rfl)) pgs_nil))))) (pss_cons (ps_for PassesOwn.never rfl (pi_range1 (by rfl) T.range_ (pa_cons (pv 12) pa_nil)) (pg_name (i := 13) sc_law_right.nd rfl (Or.inr rfl)) (pss_one (ps_set (i := 11) sc_law_right.nd rfl (Or.inl rfl) (pe_op op_cat (pv 11) (pe_lc (own := [("_law_its", 19)]) (g := (gName 19)) rfl sc_law_right.nd (pi_range1 (by rfl) T.range_ (pa_cons (pe_callB call_len (by rfl) T.len_ PySem.boot_len (pa_cons (pv 3) pa_nil)) pa_nil)) (blkOk_by (own := [("_law_its", 19)]) (N := N_law_right) (sc := (defScope s_law_right)) (by decide +kernel)) (fun _ _ _ _ _ => (pg_name (i := 19) sc_law_right.nd rfl (Or.inl rfl))) (fun _ _ _ _ _ => pts_one (pt_val (pe_ix (kIxL (K := K) rfl) (pe_ix (kIxL (K := K) rfl) (pv 10) (pv 13) (fun _ _ => rfl)) (pe_op op_add (pv 19) (pv 12)) (fun _ _ => rfl)))) (fun _ _ _ _ _ => (pe_tup (pa_cons (pv 13) (pa_cons (pv 19) pa_nil))))))))) (pss_cons (ps_set (i := 14) sc_law_right.nd rfl (Or.inl rfl) (pe_lst pa_nil)) (pss_cons (ps_for PassesOwn.never rfl (pi_list (pe_op op_cat (pe_lst (pa_cons (pv 11) pa_nil)) (pe_op op_rep (pe_lst (pa_cons (pv 7) pa_nil)) (pe_callTy call_int1 (by rfl) T.int_ PyProof.Rows.boot_int (pa_cons (pv 8) pa_nil))))) (pg_name (i := 15) sc_law_right.nd rfl (Or.inl rfl)) (pss_one (ps_for PassesOwn.never rfl (pi_range1 (by rfl) T.range_ (pa_cons pe_int pa_nil)) (pg_name (i := 16) sc_law_right.nd rfl (Or.inl rfl)) (pss_cons (ps_set (i := 17) sc_law_right.nd rfl (Or.inl rfl) (pe_cl c_law_due hr (by decide) rfl (pa_cons (pv 1) (pa_cons (pv 2) (pa_cons (pv 3) (pa_cons (pv 4) (pa_cons (pv 15) pa_nil))))))) (pss_cons (ps_expr (pe_bm0 PySem.F.plainAttrs_list PySem.F.slot_list_clear PySem.F.type_list_clear mt_clear (pv 14))) (pss_cons (ps_expr (pe_bm PySem.F.plainAttrs_list PySem.F.slot_list_extend PySem.F.type_list_extend mt_extend (pv 14) (pa_cons (pv 15) pa_nil))) (pss_cons (ps_if (PW.pt (pw_or (pt_cmpR op_ne (pe_cl c_judged hr (by decide) rfl (pa_cons (pv 5) (pa_cons (pv 6) (pa_cons (pv 14) pa_nil)))) (pv 17) (nomark _)) (pw_or1 (pt_cmpR op_ne (pe_cl c_judged hr (by decide) rfl (pa_cons (pv 5) (pa_cons (pv 6) (pa_cons (pe_callTy call_tuple_of (by rfl) T.tuple_ PyProof.Rows.boot_tuple (pa_cons (pv 15) pa_nil)) pa_nil)))) (pv 17) (nomark _))))) (pss_one (ps_ret pe_bl)) pss_nil) (pss_one (ps_set (i := 15) sc_law_right.nd rfl (Or.inl rfl) (pe_cl c_law_bent hr (by decide) rfl (pa_cons (pv 0) (pa_cons (pv 15) (pa_cons (pe_callB call_len (by rfl) T.len_ PySem.boot_len (pa_cons (pv 1) pa_nil)) (pa_cons (pe_callB call_len (by rfl) T.len_ PySem.boot_len (pa_cons (pv 3) pa_nil)) pa_nil)))))))))))))) (pss_cons (ps_for PassesOwn.never rfl (pi_tup (pe_tup (pa_cons pe_non (pa_cons pe_int (pa_cons pe_str (pa_cons pe_dnewT (pa_cons (pe_dispT hu (pe_tup (pa_cons (pv 2) (pa_cons (pv 4) pa_nil))) pe_int) (pa_cons (pv 5) pa_nil)))))))) (pg_name (i := 18) sc_law_right.nd rfl (Or.inl rfl)) (pss_one (ps_if (pt_cmpR op_ne (pe_cl c_judged hr (by decide) rfl (pa_cons (pv 5) (pa_cons (pv 6) (pa_cons (pv 18) pa_nil)))) (pe_op op_sub pe_int pe_int) (nomark _)) (pss_one (ps_ret pe_bl)) pss_nil))) (pss_one (ps_ret (pe_and (pe_cmpR op_eq (pe_cl c_judged hr (by decide) rfl (pa_cons (pv 5) (pa_cons (pv 6) (pa_cons (pe_lst pa_nil) pa_nil)))) pe_int (nomark _)) (pe_one (pe_cmpR op_eq (pe_cl c_judged hr (by decide) rfl (pa_cons (pv 5) (pa_cons (pv 6) (pa_cons (pe_lst (pa_cons pe_non pa_nil)) pa_nil)))) pe_int (nomark _))))))))))), ?_⟩
  intro l a b us us2 ns ms n m D σ H1 wv0 hal hbl ha hb hpn hpm hgn hgm hn6 hm12 hn hm hQ pre
  obtain ⟨k1, wv1, g, h, pv, bb, u9, rfl, hg, hh, hpaper⟩ := pre
  have ul1 : us.length = ns.length := paired_len hpn
  have ul2 : us2.length = ms.length := paired_len hpm
  have lk1 : LK H H1 := wv0.lk wv1 k1
  have ha1 := k1.at1 hal ha
  have hb1 := k1.at1 hbl hb
  have hpn1 := nds_ext lk1.ext hpn
  have hpm1 := nds_ext lk1.ext hpm
  have gn : Gok ns n := ⟨by omega, fun nd hx => ⟨(hgn nd hx).2.2.1, (hgn nd hx).1⟩, hn⟩
  have gm : Gok ms m := ⟨by omega, fun nd hx => ⟨(hgm nd hx).2.2.1, (hgm nd hx).1⟩, hm⟩
  have y1 : ∀ nd ∈ ns, Lay nd := fun nd hx => (hgn nd hx).lay
  have y2 : ∀ nd ∈ ms, Lay nd := fun nd hx => (hgm nd hx).lay
  have tx1 : NsTx ns := fun nd hx => ⟨(hgn nd hx).2.2.1, (hgn nd hx).2.2.2, y1 nd hx⟩
  have tx2 : NsTx ms := fun nd hx => ⟨(hgm nd hx).2.2.1, (hgm nd hx).2.2.2, y2 nd hx⟩
  refine ⟨_, rfl, _, rfl, a, b, us, us2, ns, ms, rfl, ha1, hb1, hpn1, hpm1, gn.small, gm.small, fun H2 p us' k2 hp hp' hpj => ?_⟩
  refine ⟨p, us', joinN ns ms, rfl, hp', hpj, fun nd hx => ?_, by rw [join_len]; omega, fun H3 F ls lm M k3 hF hF' hM => ?_⟩
  · rw [join_len]
    rcases List.mem_append.mp hx with hx | hx
    · exact ⟨(tx1 nd hx).1, (tx1 nd hx).2.1, (tx1 nd hx).2.2, below_mono (by omega) (hgn nd hx).1⟩
    · obtain ⟨y, hy, rfl⟩ := List.mem_map.mp hx
      exact ⟨by rw [shift_len]; exact (tx2 y hy).1, shift_txt (tx2 y hy).2.1, by unfold Lay; rw [first_shift]; exact (tx2 y hy).2.2, shift_below (hgm y hy).1⟩
  refine ⟨_, rfl, F, _, _, _, rfl, rfl, SqL.of hF', atI_last _ _, (by show 0 ≤ sizeLine; decide), fun W hW => ?_⟩
  have k23 := k2.trans k3
  have kW : Keep [] H3 (upd H3 W (.lst [])) := keep_new hW
  have hW1 : upd H3 W (.lst []) W = some (.lst []) := upd_same
  generalize upd H3 W (.lst []) = H4 at *
  have k14 := k23.trans kW
  refine ⟨_, rfl, _, us.length, rfl, .inl ⟨_, SqL.of (k14.at_ ha1), rfl⟩, (by show 3 ≤ sizeLine; decide), fun tp htp => ?_⟩
  have ktp : Keep [] H4 (upd H4 tp (.tup [.ref lm, .ref W, .int us.length])) := keep_new htp
  have htp' : upd H4 tp (.tup [.ref lm, .ref W, .int us.length]) tp = some (.tup [.ref lm, .ref W, .int us.length]) := upd_same
  generalize upd H4 tp (.tup [.ref lm, .ref W, .int us.length]) = H5 at *
  have k15 := k14.trans ktp
  have hM5 := (hM.keep kW).keep ktp
  rw [join_len] at hM5
  refine ⟨tp, _, rfl, SqT.of htp', rfl, _, _, rfl, _, _, rfl, _, _, rfl, rfl, ?_⟩
  -- the pairs that the last round holds together
  refine ⟨_, rfl, _, rfl, by omega, by omega, ?_⟩
  refine for_it walk_range (fun i σ H6 => Keep [] H5 H6 ∧ (∃ Wi ws ps, H6 Wi = some (.lst ws) ∧ Paired (PairV H6) ws ps ∧ (∀ q ∈ ps, q.1 < ns.length ∧ q.2 < ms.length) ∧ ps.length ≤ i * ms.length ∧ Wi ≠ l ∧ ∃ u13, σ = [some (.ref l), some (.ref a), some (nV n), some (.ref b), some (nV m), some (.ref g), some (.ref h), some pv, some (.bl bb), u9, some (.ref lm), some (.ref Wi), some (.int us.length), u13, none, none, none, none, none, none]))
    ⟨Keep.refl _ _, W, [], [], ktp.at_ hW1, .nil, fun q h => by simp at h, by simp, (wv1.keep k23).ne hW, _, rfl⟩ (fun _ _ _ _ _ => trivial) ?_ ?_
  · rintro i x σ H6 H7 hi ⟨k6, Wi, ws, ps, hWi, hpw, hps, hpl, hWl, u13, rfl⟩ ⟨rfl, rfl⟩
    have hi' : i < ns.length := by omega
    have k16 := k15.trans k6
    refine ⟨_, rfl, _, rfl, _, us2.length, rfl, .inl ⟨_, SqL.of (k16.at_ hb1), rfl⟩, _, rfl, by omega, by omega, fun D1 hD1 => ?_⟩
    refine lc_it walk_range (Gath H7 [] J0 D1 (List.range ms.length) (fun j => if mb M i (j + ns.length) = true then some (i, j) else none) PairV) (gath0 hD1 trivial) (fun _ _ _ _ => trivial) ?_ ?_
    · rintro j x H8 H9 hj p ⟨rfl, rfl⟩
      have hj' : j < ms.length := by omega
      have hrj : (List.range ms.length)[j]? = some j := List.getElem?_range hj'
      obtain ⟨rows, ra, row, g1, g2, g3, g4⟩ := (hM5.keep (k6.trans p.keep)).get (i := i) (j := j + ns.length) (by omega) (by omega)
      refine ⟨rfl, ?_⟩
      refine ⟨_, rfl, _, rfl, lm, rows, _, _, rfl, (by show V.int (0 + (i : Int)) = _; rw [Int.zero_add]), SqL.of g1, g2, _, rfl, _, rfl, _, _, rfl, rfl, ra, row, ((j + ns.length : Nat) : Int), _, rfl, (by show V.int (0 + (j : Int) + (us.length : Int)) = _; congr 1; push_cast; omega), SqL.of g3, g4, _, rfl, ?_⟩
      cases e : mb M i (j + ns.length) with
      | false => exact iteF (p.no (gx0 fun H H' v b k e h => h.ext e) hrj (Keep.refl _ _) trivial (if_neg (by rw [e]; decide)))
      | true =>
        refine iteT ⟨_, rfl, _, rfl, (by show 2 ≤ sizeLine; decide), fun t ht => ?_⟩
        refine p.yes (gx0 fun H H' v b k e h => h.ext e) hD1 hrj (by rw [List.length_range]; exact small_line (by omega)) (keep_new ht) trivial (if_pos e) ⟨t, rfl, ?_⟩
        rw [upd_same]
        congr 3
        · show V.int (0 + (i : Int)) = nV i
          rw [Int.zero_add]
        · show [V.int (0 + (j : Int))] = [nV j]
          rw [Int.zero_add]
    · intro H8 p
      obtain ⟨k8, _, ys, hy, hq⟩ := p.all (by rw [List.length_range]; omega)
      have hql : ((List.range ms.length).filterMap fun j => if mb M i (j + ns.length) = true then some (i, j) else none).length ≤ ms.length := by
        have := List.length_filterMap_le (fun j => if mb M i (j + ns.length) = true then some (i, j) else none) (List.range ms.length)
        rw [List.length_range] at this
        exact this
      have hyl := paired_len hq
      have hwl := paired_len hpw
      have hil : i * ms.length ≤ 6 * 12 := Nat.mul_le_mul (by omega) hm12
      refine ⟨Wi, D1, ws, ys, rfl, rfl, k8.at_ hWi, hy, small_line' (by omega), fun q hq2 => ?_⟩
      have kq : Keep [] H8 (upd H8 q (.lst (ws ++ ys))) := keep_new hq2
      refine ⟨(k6.trans k8).trans kq, q, _, ps ++ _, upd_same, paired_cat (pairs_ext kq.ext0 hq) (pairs_ext (k8.ext0.trans kq.ext0) hpw), fun z hz => ?_, ?_, ?_, _, rfl⟩
      · rcases List.mem_append.mp hz with hz | hz
        · exact hps z hz
        · obtain ⟨j, hj, e⟩ := List.mem_filterMap.mp hz
          split at e
          · rw [← Option.some.inj e]
            exact ⟨hi', List.mem_range.mp hj⟩
          · cases e
      · rw [List.length_append, Nat.succ_mul]
        omega
      · exact (wv1.keep (k16.trans k8)).ne hq2
  rintro σ H6 ⟨k6, Wi, ws, ps, hWi, hpw, hps, hpl, hWl, u13, rfl⟩
  have hpl' : ps.length ≤ 72 := by
    have h1 : ((us.length : Int).toNat) * ms.length ≤ 6 * 12 := Nat.mul_le_mul (by omega) hm12
    omega
  refine ⟨(by show 0 ≤ sizeLine; decide), fun Hd hHd => ?_⟩
  have kHd : Keep [] H6 (upd H6 Hd (.lst [])) := keep_new hHd
  have eHd : upd H6 Hd (.lst []) Hd = some (.lst []) := upd_same
  have hHl : Hd ≠ l := (wv1.keep (k15.trans k6)).ne hHd
  have k17 := (k15.trans k6).trans kHd
  have aHd : ∀ {x : Addr} {o : HO}, H1 x = some o → x ≠ Hd := fun e => ne_of_none ((k15.trans k6).at_ e) hHd
  have hWiHd : Wi ≠ Hd := ne_of_none hWi hHd
  have hHd0 : H Hd = none := none_ofw (k1.trans (k15.trans k6).more) hHl hHd
  have hWi7 := kHd.at_ hWi
  have hpw7 := pairs_ext kHd.ext0 hpw
  generalize upd H6 Hd (.lst []) = H7 at *
  refine ⟨_, rfl, (by show 1 ≤ sizeLine; decide), fun x1 hx1 => ?_⟩
  have kx1 : Keep [] H7 (upd H7 x1 (.lst [.ref Wi])) := keep_new hx1
  have ex1 : upd H7 x1 (.lst [.ref Wi]) x1 = some (.lst [.ref Wi]) := upd_same
  generalize upd H7 x1 (.lst [.ref Wi]) = H8 at *
  refine ⟨_, rfl, (by show 1 ≤ sizeLine; decide), fun x2 hx2 => ?_⟩
  have kx2 : Keep [] H8 (upd H8 x2 (.lst [pv])) := keep_new hx2
  have ex2 : upd H8 x2 (.lst [pv]) x2 = some (.lst [pv]) := upd_same
  generalize upd H8 x2 (.lst [pv]) = H9 at *
  refine ⟨_, rfl, .inr ⟨bb, rfl, x2, _, _, rfl, rfl, ex2, by split <;> decide, by split <;> decide, ?_, fun x3 hx3 => ?_⟩⟩
  · show 1 * _ ≤ sizeLine
    cases bb <;> decide
  have kx3 : Keep [] H9 (upd H9 x3 (.lst (List.replicate (if bb = true then (1 : Int) else 0).toNat [pv]).flatten)) := keep_new hx3
  have ex3 : upd H9 x3 (.lst (List.replicate (if bb = true then (1 : Int) else 0).toNat [pv]).flatten) x3 = some (.lst (List.replicate (if bb = true then (1 : Int) else 0).toNat [pv]).flatten) := upd_same
  have hrep : (List.replicate (if bb = true then (1 : Int) else 0).toNat [pv]).flatten = if bb = true then [pv] else [] := by cases bb <;> rfl
  rw [hrep] at ex3 kx3
  rw [hrep]
  generalize upd H9 x3 (.lst (if bb = true then [pv] else [])) = H10 at *
  refine ⟨x1, x3, _, _, rfl, rfl, kx3.at_ (kx2.at_ ex1), ex3, (by cases bb with | false => (show 1 + 0 ≤ sizeLine; decide) | true => (show 1 + 1 ≤ sizeLine; decide)), fun X hX => ?_⟩
  have kX : Keep [] H10 (upd H10 X (.lst ([.ref Wi] ++ if bb = true then [pv] else []))) := keep_new hX
  have eX : upd H10 X (.lst ([.ref Wi] ++ if bb = true then [pv] else [])) X = some (.lst ([.ref Wi] ++ if bb = true then [pv] else [])) := upd_same
  generalize upd H10 X (.lst ([.ref Wi] ++ if bb = true then [pv] else [])) = H11 at *
  have k711 := ((kx1.trans kx2).trans kx3).trans kX
  have k111 := k17.trans k711
  have wv11 := wv1.keep k111
  have hXl : X ≠ l := (wv1.keep (((k17.trans kx1).trans kx2).trans kx3)).ne hX
  have eHd11 := k711.at_ eHd
  have hXHd : X ≠ Hd := fun z => by subst z; rw [eX] at eHd11; cases eHd11
  have item : ∀ v ∈ ([.ref Wi] ++ if bb = true then [pv] else [] : List V), ∃ S ws ppr, v = .ref S ∧ S ≠ l ∧ S ≠ Hd ∧ H11 S = some (.lst ws) ∧ Paired (ElV C ns.length ms.length H11) ws ppr ∧ ppr.length ≤ 2400 := by
    intro v hv
    rcases List.mem_append.mp hv with hv | hv
    · rw [List.mem_singleton.mp hv]
      exact ⟨Wi, ws, _, rfl, hWl, hWiHd, k711.at_ hWi7, pair_el (pairs_ext k711.ext0 hpw7) hps, by rw [List.length_map]; omega⟩
    · cases bb with
      | false => cases hv
      | true =>
        have hv : v ∈ [pv] := hv
        rw [List.mem_singleton.mp hv]
        obtain ⟨p, ws, ps, rfl, hpl, hpp, hpq, hpr, hlen⟩ := hpaper rfl
        exact ⟨p, ws, _, rfl, hpl, aHd hpp, k111.at_ hpp, pair_el (pairs_ext k111.ext0 hpq) hpr, by rw [List.length_map]; exact hlen⟩
  have facts : ∀ {H' : Hp}, In2 l Hd H11 H' → Keep [l] H H' ∧ GrAt C H' g ns n ∧ GrAt C H' h ms m ∧ H' a = some (.lst us) ∧ H' b = some (.lst us2) ∧ Paired (NdV H') us ns ∧ Paired (NdV H') us2 ms := fun {H'} i => by
    have lk := i.lk wv11 ⟨_, eHd11⟩
    refine ⟨?_, (hg.keep k111).lk lk, (hh.keep k111).lk lk, i.at_ hal (aHd ha1) (k111.at_ ha1), i.at_ hbl (aHd hb1) (k111.at_ hb1), nds_ext lk.ext (nds_ext k111.ext0 hpn1), nds_ext lk.ext (nds_ext k111.ext0 hpm1)⟩
    have k2' : Keep [Hd, l] H H' := ((k1.trans k111.more).mono fun z hz => by simp at hz ⊢; exact .inr hz).trans (i.keep.mono fun z hz => by simp at hz ⊢; exact hz.symm)
    exact k2'.drop hHd0
  refine ⟨X, rfl, ⟨_, SqL.of eX⟩, ?_⟩
  refine for_it (walk_list (xs := [.ref Wi] ++ if bb = true then [pv] else [])) (fun i σ H' => In2 l Hd H11 H' ∧ ∃ u15 u16 u17, σ = [some (.ref l), some (.ref a), some (nV n), some (.ref b), some (nV m), some (.ref g), some (.ref h), some pv, some (.bl bb), u9, some (.ref lm), some (.ref Wi), some (.int us.length), u13, some (.ref Hd), u15, u16, u17, none, none])
    ⟨⟨Keep.refl _ _, wv11, _, eHd11⟩, _, _, _, rfl⟩ (fun i σ H' _ z => SqL.of (z.1.at_ hXl hXHd eX)) ?_ ?_
  · rintro i x σ H12 H13 hi ⟨in12, u15, u16, u17, rfl⟩ ⟨rfl, ex⟩
    obtain ⟨S, sws, ppr, rfl, hSl, hSHd, hS, hSp, hSlen⟩ := item x (List.mem_of_getElem? ex)
    refine ⟨_, rfl, by decide, by decide, ?_⟩
    refine for_it walk_range (fun j σ H' => In2 l Hd H11 H' ∧ ∃ S ws ppr u16 u17, H' S = some (.lst ws) ∧ S ≠ l ∧ S ≠ Hd ∧ Paired (ElV C ns.length ms.length H') ws ppr ∧ ppr.length ≤ 2400 + j ∧ σ = [some (.ref l), some (.ref a), some (nV n), some (.ref b), some (nV m), some (.ref g), some (.ref h), some pv, some (.bl bb), u9, some (.ref lm), some (.ref Wi), some (.int us.length), u13, some (.ref Hd), some (.ref S), u16, u17, none, none])
      ⟨in12, S, sws, ppr, _, _, in12.at_ hSl hSHd hS, hSl, hSHd, els_lk (in12.lk wv11 ⟨_, eHd11⟩) hSp, hSlen, rfl⟩ (fun _ _ _ _ _ => trivial) ?_ ?_
    · rintro j x σ H14 H15 hj ⟨in14, S, sws, ppr, u16, u17, hS, hSl, hSHd, hSp, hSlen, rfl⟩ ⟨rfl, rfl⟩
      have hj4 : j < 4 := by omega
      obtain ⟨_, f2, f3, f4, f5, f6, f7⟩ := facts in14
      have sl := paired_len hSp
      refine ⟨_, rfl, _, rfl, _, rfl, _, rfl, _, rfl, a, b, us, us2, ns, ms, n, m, S, true, sws, ppr, rfl, f4, f5, f6, f7, tx1, tx2, hS, hSp, by omega, fun H16 k16 => ?_⟩
      have in16 := in14.step k16
      have hS16 := k16.at_ hS
      have hSp16 := els_keep k16 hSp
      obtain ⟨xs, hxs⟩ := in16.hd
      refine ⟨_, rfl, .inl ⟨rfl, _, SqL.of hxs⟩, Hd, _, rfl, rfl, hxs, ?_⟩
      have in17 := in16.upd hHl (xs := [])
      have lk17 : LK H16 (upd H16 Hd (.lst [])) := lk_upd hxs
      have hS17 : upd H16 Hd (.lst []) S = some (.lst sws) := by rw [upd_ne hSHd]; exact hS16
      have hHd17 : upd H16 Hd (.lst []) Hd = some (.lst []) := upd_same
      have hSp17 := els_lk lk17 hSp16
      generalize upd H16 Hd (.lst []) = H17 at *
      refine ⟨_, rfl, .inl ⟨rfl, _, SqL.of hHd17⟩, _, rfl, Hd, S, _, _, rfl, rfl, hHd17, hS17, small_line' (by simp only [List.length_nil]; omega), ?_⟩
      have in18 := in17.upd hHl (xs := [] ++ sws)
      have lk18 : LK H17 (upd H17 Hd (.lst ([] ++ sws))) := lk_upd hHd17
      have hS18 : upd H17 Hd (.lst ([] ++ sws)) S = some (.lst sws) := by rw [upd_ne hSHd]; exact hS17
      have hHd18 : upd H17 Hd (.lst ([] ++ sws)) Hd = some (.lst sws) := upd_same
      have hSp18 := els_lk lk18 hSp17
      generalize upd H17 Hd (.lst ([] ++ sws)) = H18 at *
      obtain ⟨_, f2, f3, f4, f5, f6, f7⟩ := facts in18
      refine ⟨_, rfl, _, rfl, _, rfl, g, h, ns, ms, n, m, .ref Hd, rfl, f2, f3, gn, gm, y1, y2, .inl ⟨Hd, true, sws, ppr, rfl, hHd18, hSp18, by omega, fun H19 k19 => ?_⟩⟩
      refine ⟨_, rfl, scal_j _, _, rfl, ?_⟩
      rw [j_ne]
      have in19 := in18.step k19
      refine iteF ⟨_, rfl, _, rfl, _, rfl, S, sws, rfl, .inl ⟨SqL.of (k19.at_ hS18), fun tt htt => ?_⟩⟩
      have kt : Keep [] H19 (upd H19 tt (.tup sws)) := keep_new htt
      have ht20 : upd H19 tt (.tup sws) tt = some (.tup sws) := upd_same
      generalize upd H19 tt (.tup sws) = H20 at *
      have in20 := in19.step kt
      have k20 := k19.trans kt
      obtain ⟨_, f2, f3, f4, f5, f6, f7⟩ := facts in20
      refine ⟨g, h, ns, ms, n, m, .ref tt, rfl, f2, f3, gn, gm, y1, y2, .inl ⟨tt, false, sws, ppr, rfl, ht20, els_keep k20 hSp18, by omega, fun H21 k21 => ?_⟩⟩
      refine ⟨_, rfl, scal_j _, _, rfl, ?_⟩
      rw [j_ne]
      refine iteF ?_
      have in21 := in20.step k21
      have k821 := k20.trans k21
      obtain ⟨_, f2, f3, f4, f5, f6, f7⟩ := facts in21
      refine ⟨_, rfl, _, rfl, _, rfl, _, us.length, rfl, .inl ⟨_, SqL.of f4, rfl⟩, _, rfl, _, us2.length, rfl, .inl ⟨_, SqL.of f5, rfl⟩, ?_⟩
      refine ⟨l, S, sws, ppr, ns.length, ms.length, by rw [ul1, ul2], in21.well, hSl, k821.at_ hS18, els_keep k821 hSp18, by omega, by omega, by omega, by omega, by omega, fun H22 p ws' ppr' k22 wv22 hp hp' hpp' hlen' => ?_⟩
      refine ⟨in21.stepw hHl k22 wv22, p, ws', ppr', _, _, hp', in21.well.ne hp, ?_, hpp', by omega, rfl⟩
      obtain ⟨xs, hxs⟩ := in21.hd
      exact fun z => by subst z; rw [hp] at hxs; cases hxs
    · rintro σ H14 ⟨in14, S, sws, ppr, u16, u17, hS, hSl, hSHd, hSp, hSlen, rfl⟩
      exact ⟨in14, _, _, _, rfl⟩
  rintro σ H12 ⟨in12, u15, u16, u17, rfl⟩
  refine fun d1 hd1 => ?_
  have kd1 : Keep [] H12 (upd H12 d1 (.dT [])) := keep_new hd1
  have ed1 : upd H12 d1 (.dT []) d1 = some (.dT []) := upd_same
  generalize upd H12 d1 (.dT []) = H13 at *
  refine fun d2 hd2 => ?_
  have kd2 : Keep [] H13 (upd H13 d2 (.dT [])) := keep_new hd2
  have ed2 : upd H13 d2 (.dT []) d2 = some (.dT []) := upd_same
  generalize upd H13 d2 (.dT []) = H14 at *
  refine ⟨_, rfl, _, rfl, (by show 2 ≤ sizeLine; decide), fun tk htk => ?_⟩
  have ktk : Keep [] H14 (upd H14 tk (.tup [nV n, nV m])) := keep_new htk
  have etk : upd H14 tk (.tup [nV n, nV m]) tk = some (.tup [nV n, nV m]) := upd_same
  generalize upd H14 tk (.tup [nV n, nV m]) = H15 at *
  refine ⟨tk, keyOf (n, m), rfl, etk, ktk.at_ ed2, ?_⟩
  have kd3 : Keep [] H13 (upd H15 d2 (.dT [(keyOf (n, m), .int 1)])) := (kd2.trans ktk).upd0 hd2
  have ed3 : upd H15 d2 (.dT [(keyOf (n, m), .int 1)]) d2 = some (.dT [(keyOf (n, m), .int 1)]) := upd_same
  generalize upd H15 d2 (.dT [(keyOf (n, m), .int 1)]) = H16 at *
  refine ⟨_, rfl, (by show 6 ≤ sizeLine; decide), fun tp6 htp6 => ?_⟩
  have k16 := (kd1.trans kd3)
  have ktp6 : Keep [] H16 (upd H16 tp6 (.tup [.non, .int 5, .str "paper", .ref d1, .ref d2, .ref g])) := keep_new htp6
  have etp6 : upd H16 tp6 (.tup [.non, .int 5, .str "paper", .ref d1, .ref d2, .ref g]) tp6 = some (.tup [.non, .int 5, .str "paper", .ref d1, .ref d2, .ref g]) := upd_same
  generalize upd H16 tp6 (.tup [.non, .int 5, .str "paper", .ref d1, .ref d2, .ref g]) = H17 at *
  have in17 := (in12.step k16).step ktp6
  have hg17 := (facts in17).2.1
  have none6 : ∀ v ∈ ([.non, .int 5, .str "paper", .ref d1, .ref d2, .ref g] : List V), NoSeq K H17 v := by
    intro v hv
    simp only [List.mem_cons, List.not_mem_nil, or_false] at hv
    rcases hv with rfl | rfl | rfl | rfl | rfl | rfl
    · exact no_non
    · exact no_int
    · exact no_str
    · exact no_dT (ktp6.at_ (kd3.at_ ed1))
    · exact no_dT (ktp6.at_ ed3)
    · exact no_gr GG hg17
  refine ⟨tp6, rfl, ⟨_, SqT.of etp6⟩, ?_⟩
  refine for_it (walk_tup (xs := [.non, .int 5, .str "paper", .ref d1, .ref d2, .ref g])) (fun i σ H' => Keep [] H17 H' ∧ ∃ u18, σ = [some (.ref l), some (.ref a), some (nV n), some (.ref b), some (nV m), some (.ref g), some (.ref h), some pv, some (.bl bb), u9, some (.ref lm), some (.ref Wi), some (.int us.length), u13, some (.ref Hd), u15, u16, u17, u18, none])
    ⟨Keep.refl _ _, _, rfl⟩ (fun i σ H' _ z => SqT.of (z.1.at_ etp6)) ?_ ?_
  · rintro i x σ H18 H19 hi ⟨k18, u18, rfl⟩ ⟨rfl, ex⟩
    obtain ⟨_, f2, f3, f4, f5, f6, f7⟩ := facts (in17.step k18)
    refine ⟨_, rfl, _, rfl, _, rfl, g, h, ns, ms, n, m, x, rfl, f2, f3, gn, gm, y1, y2, .inr ⟨(none6 x (List.mem_of_getElem? ex)).keep k18, fun H20 k20 => ?_⟩⟩
    exact ⟨_, _, rfl, rfl, rfl, _, rfl, iteF ⟨k18.trans k20, _, rfl⟩⟩
  rintro σ H18 ⟨k18, u18, rfl⟩
  have in18 := in17.step k18
  obtain ⟨_, f2, f3, f4, f5, f6, f7⟩ := facts in18
  refine ⟨_, rfl, _, rfl, (by show 0 ≤ sizeLine; decide), fun e1 he1 => ?_⟩
  have ke1 : Keep [] H18 (upd H18 e1 (.lst [])) := keep_new he1
  refine ⟨g, h, ns, ms, n, m, .ref e1, rfl, f2.keep ke1, f3.keep ke1, gn, gm, y1, y2, .inl ⟨e1, true, [], [], rfl, upd_same, .nil, Nat.zero_le _, fun H19 k19 => ?_⟩⟩
  have in19 := (in18.step ke1).step k19
  rw [judge_nil]
  refine ⟨rfl, _, rfl, iteT ?_⟩
  obtain ⟨_, f2, f3, f4, f5, f6, f7⟩ := facts in19
  refine ⟨_, rfl, _, rfl, (by show 1 ≤ sizeLine; decide), fun e2 he2 => ?_⟩
  have ke2 : Keep [] H19 (upd H19 e2 (.lst [.non])) := keep_new he2
  refine ⟨g, h, ns, ms, n, m, .ref e2, rfl, f2.keep ke2, f3.keep ke2, gn, gm, y1, y2, .inl ⟨e2, true, [.non], [none], rfl, upd_same, .cons (.inl .non) .nil, by decide, fun H20 k20 => ?_⟩⟩
  have in20 := (in19.step ke2).step k20
  rw [judge_bad]
  exact ⟨rfl, hQ _ (facts in20).1 in20.well⟩
end
end Ap
set_option Elab.async false
set_option linter.all false
set_option maxRecDepth 100000
set_option maxHeartbeats 4000000
namespace Ap
open PySem PySem.Spec PyProof.Rows L2
theorem paper_len {ns ms : List Nd} {n m : Nat} (gn : Gok ns n) (gm : Gok ms m) (he : eqv_ ns ms n m) : (paperN ns ms n m).length ≤ 33 * (ns.length * ms.length) + 1 := by
  have h1 := sk_flen (ns := ns) (ms := ms) (n := n) (m := m) (skN ns ms n m)
  have h2 := sk_mu gn gm he (skN ns ms n m) (skN_spec gn gm he).2
  unfold paperN
  omega
section
variable {P : Program} {w : World} {K : PySem.W.Frag} {mg : Str → Option Value} {base : Heap}
theorem w_law_right {C : Addr} (T : Txt K mg) (cG : ClG P w K mg base C) (c_paper_of : Cl P w K mg base 3 "paper_of" (spPaper C)) (c_equal : Cl P w K mg base 4 "equal" (spEqual C)) (c_law_side_by_side : Cl P w K mg base 2 "_law_side_by_side" spSide) (c_law_rounds : Cl P w K mg base 2 "_law_rounds" spLRounds) (c_law_due : Cl P w K mg base 3 "_law_due" (spDue C)) (c_judged : Cl P w K mg base 3 "judged" (spJudged K C)) (c_law_bent : Cl P w K mg base 3 "_law_bent" (spBent C))
    (D : Dn K mg "_law_right" s_law_right) : Cl P w K mg base 6 "_law_right" (spRight C) := by
  have GG := cG.gc
  refine cl_of D sc_law_right (fun vs H Q E h => ?_) (fun _ _ _ _ _ _ us hl => match us, hl with | [_, _, _, _, _], _ => rfl) fun f cdv A outer s H vs Q E hr h => ?_
  · obtain ⟨l, a, b, us, us2, ns, ms, n, m, rfl, _⟩ := h
    rfl
  obtain ⟨l, a, b, us, us2, ns, ms, n, m, rfl, wv, hal, hbl, ha, hb, hpn, hpm, hgn, hgm, hn6, hm12, hn, hm, hQ⟩ := h
  obtain ⟨tT, hT, hTr⟩ := law_right_tail (outer := outer) (H := H) (E := E) T GG c_law_side_by_side c_law_rounds c_law_due c_judged c_law_bent hr
  have ul1 : us.length = ns.length := paired_len hpn
  have ul2 : us2.length = ms.length := paired_len hpm
  have gn : Gok ns n := ⟨by omega, fun nd hx => ⟨(hgn nd hx).2.2.1, (hgn nd hx).1⟩, hn⟩
  have gm : Gok ms m := ⟨by omega, fun nd hx => ⟨(hgm nd hx).2.2.1, (hgm nd hx).1⟩, hm⟩
  have tx1 : NsTx ns := fun nd hx => ⟨(hgn nd hx).2.2.1, (hgn nd hx).2.2.2, (hgn nd hx).lay⟩
  have tx2 : NsTx ms := fun nd hx => ⟨(hgm nd hx).2.2.1, (hgm nd hx).2.2.2, (hgm nd hx).lay⟩
  refine ⟨_, PSs.nox (pss_cons (ps_par (by rfl) sc_law_right.nd (i := 5) (j := 6) rfl rfl (by decide) rfl rfl (pa_cons (pe_graph2 cG hr (by decide) rfl (pa_cons (pv 1) (pa_cons (pv 2) pa_nil))) (pa_cons (pe_graph2 cG hr (by decide) rfl (pa_cons (pv 3) (pa_cons (pv 4) pa_nil))) pa_nil)) (by rfl)) (pss_cons (ps_par (by rfl) sc_law_right.nd (i := 7) (j := 8) rfl rfl (by decide) rfl rfl (pa_cons (pe_cl c_paper_of hr (by decide) rfl (pa_cons (pv 5) (pa_cons (pv 6) pa_nil))) (pa_cons (pe_cl c_equal hr (by decide) rfl (pa_cons (pv 5) (pa_cons (pv 6) pa_nil))) pa_nil)) (by rfl)) (pss_cons (ps_if (pt_cmpR op_eq (pe_cmpR op_isN (pv 7) pe_non (nomark _)) (pv 8) (nomark _)) (pss_one (ps_ret pe_bl)) pss_nil) (pss_cons (ps_if (pt_val (pv 8)) (pss_cons (ps_set (i := 9) sc_law_right.nd rfl (Or.inl rfl) (pe_callTy call_list_of (by rfl) T.list_ PyProof.Rows.boot_list (pa_cons (pv 7) pa_nil))) (pss_cons (ps_expr (pe_bm PySem.F.plainAttrs_list PySem.F.slot_list_append PySem.F.type_list_append mt_append (pv 7) (pa_cons pe_non pa_nil))) (pss_cons (ps_set (i := 7) sc_law_right.nd rfl (Or.inl rfl) (pe_cl c_paper_of hr (by decide) rfl (pa_cons (pv 5) (pa_cons (pv 6) pa_nil)))) (pss_one (ps_if (pt_cmpR (op_neD hr.units) (pv 7) (pv 9) (nomark _)) (pss_one (ps_ret pe_bl)) pss_nil))))) pss_nil) (pss_cons (ps_if (PW.pt (pw_and (pt_val (pv 8)) (pw_and1 (pt_cmpR op_notN (pe_cl c_law_due hr (by decide) rfl (pa_cons (pv 1) (pa_cons (pv 2) (pa_cons (pv 3) (pa_cons (pv 4) (pa_cons (pv 7) pa_nil)))))) pe_non (nomark _))))) (pss_one (ps_ret pe_bl)) pss_nil) hT))))), ?_⟩
  refine ⟨_, rfl, _, rfl, a, n, rfl, us, ns, ha, hpn, (fun z => by rw [z] at hn; exact absurd hn (Nat.not_lt_zero _)), by omega, fun nd hx => ⟨(hgn nd hx).1, (hgn nd hx).2.1, (hgn nd hx).2.2.1⟩, hn, fun g H1 k1 hg0 hg => ?_⟩
  refine ⟨_, rfl, _, rfl, b, m, rfl, us2, ms, k1.at_ hb, nds_ext k1.ext0 hpm, (fun z => by rw [z] at hm; exact absurd hm (Nat.not_lt_zero _)), by omega, fun nd hx => ⟨(hgm nd hx).1, (hgm nd hx).2.1, (hgm nd hx).2.2.1⟩, hm, fun h H2 k2 hh0 hh => ⟨_, _, rfl, ?_⟩⟩
  have hg2 := hg.keep k2
  have k12 := k1.trans k2
  have fin : ∀ (H3 : Hp) (pv : V) (bb : Bool) (u9 : Option V), Keep [] H2 H3 → (bb = true → ∃ p ws ps, pv = .ref p ∧ p ≠ l ∧ H3 p = some (.lst ws) ∧ Paired (PairV H3) ws ps ∧ (∀ q ∈ ps, q.1 < ns.length ∧ q.2 < ms.length) ∧ ps.length ≤ 2400) →
      tT { nx := fun _ H' => Q .non H', rt := Q } [some (.ref l), some (.ref a), some (nV n), some (.ref b), some (nV m), some (.ref g), some (.ref h), some pv, some (.bl bb), u9, none, none, none, none, none, none, none, none, none, none] H3 := fun H3 pv bb u9 k3 hp =>
    hTr l a b us us2 ns ms n m _ _ H3 wv hal hbl ha hb hpn hpm hgn hgm hn6 hm12 hn hm hQ ⟨(k12.trans k3).more, wv.keep (k12.trans k3), g, h, pv, bb, u9, rfl, hg2.keep k3, hh.keep k3, hp⟩
  by_cases he : eqv_ ns ms n m
  case neg =>
    refine ⟨_, rfl, _, rfl, g, h, ns, ms, n, m, rfl, hg2, hh, gn, gm, fun H3 k3 _ => ?_, fun H3 p us k3 hp hp' hpp z => absurd z he⟩
    refine ⟨_, rfl, _, rfl, g, h, ns, ms, n, m, rfl, hg2.keep k3, hh.keep k3, gn, gm, fun H4 bb k4 hbb => ⟨_, _, rfl, ?_⟩⟩
    have ebb : bb = false := by
      cases bb with
      | false => rfl
      | true => exact absurd (hbb.mp rfl) he
    subst ebb
    refine ⟨_, rfl, rfl, _, rfl, rfl, _, rfl, iteF ?_⟩
    refine ⟨_, rfl, _, rfl, iteF ?_⟩
    refine ⟨_, rfl, _, rfl, iteF (iteF ?_)⟩
    exact fin H4 .non false _ (k3.trans k4) (fun z => by cases z)
  obtain ⟨po1, po2, po3, po4⟩ := paper_ok gn gm he
  refine ⟨_, rfl, _, rfl, g, h, ns, ms, n, m, rfl, hg2, hh, gn, gm, fun H3 k3 z => absurd he z, fun H3 p us k3 hp hp' hpp _ => ?_⟩
  refine ⟨_, rfl, _, rfl, g, h, ns, ms, n, m, rfl, hg2.keep k3, hh.keep k3, gn, gm, fun H4 bb k4 hbb => ⟨_, _, rfl, ?_⟩⟩
  have ebb : bb = true := hbb.mpr he
  subst ebb
  refine ⟨_, rfl, rfl, _, rfl, rfl, _, rfl, iteF ?_⟩
  refine ⟨_, rfl, _, rfl, iteT ?_⟩
  have hp4 := k4.at_ hp'
  have pl := paired_len hpp
  have plen := paper_len gn gm he
  have h72 : ns.length * ms.length ≤ 6 * 12 := Nat.mul_le_mul hn6 hm12
  refine ⟨_, rfl, p, _, rfl, .inl (SqL.of hp4), fun kp hkp => ?_⟩
  have kkp : Keep [] H4 (upd H4 kp (.lst us)) := keep_new hkp
  have ekp : upd H4 kp (.lst us) kp = some (.lst us) := upd_same
  have hp5 := kkp.at_ hp4
  have hkpp : kp ≠ p := (ne_of_none hp4 hkp).symm
  generalize upd H4 kp (.lst us) = H5 at *
  refine ⟨_, rfl, .inl ⟨rfl, _, SqL.of hp5⟩, p, us, _, rfl, rfl, hp5, small_line (by omega), ?_⟩
  have e6 : Ext H5 (upd H5 p (.lst (us ++ [.non]))) := ext_updl hp5 (by intro xs z; cases z)
  have k6 : Keep [] H2 (upd H5 p (.lst (us ++ [.non]))) := ((k3.trans k4).trans kkp).upd0 hp
  have ekp6 : upd H5 p (.lst (us ++ [.non])) kp = some (.lst us) := by rw [upd_ne hkpp]; exact ekp
  have hpp6 := pairs_ext e6 (pairs_ext (k4.trans kkp).ext0 hpp)
  generalize upd H5 p (.lst (us ++ [.non])) = H6 at *
  refine ⟨_, rfl, _, rfl, g, h, ns, ms, n, m, rfl, hg2.keep k6, hh.keep k6, gn, gm, fun H7 k7 z => absurd he z, fun H7 p2 ws k7 hp7 hp7' hpp7 _ => ?_⟩
  refine ⟨_, rfl, _, rfl, _, _, dp_pairs (SqL.of hp7') hpp7, dp_pairs (SqL.of (k7.at_ ekp6)) (pairs_ext k7.ext0 hpp6), dPs_shaped _, dPs_shaped _, _, rfl, ?_⟩
  rw [dPs_eqv, decide_eq_true rfl]
  refine iteF ?_
  have k27 := k6.trans k7
  have k07 := k12.trans k27
  refine ⟨_, rfl, _, rfl, iteT ⟨_, rfl, _, rfl, _, rfl, _, rfl, _, rfl, a, b, _, us2, ns, ms, n, m, p2, true, ws, (paperN ns ms n m).map some, rfl, k07.at_ ha, k07.at_ hb, nds_ext k07.ext0 hpn, nds_ext k07.ext0 hpm, tx1, tx2, hp7', pair_el hpp7 (fun q hq => ⟨(po1 q hq).1, (po1 q hq).2.1⟩), by rw [List.length_map]; omega, fun H8 k8 => ?_⟩⟩
  rw [judge_paper gn gm he]
  refine ⟨rfl, _, rfl, iteF ?_⟩
  exact fin H8 (.ref p2) true _ (k27.trans k8) fun _ => ⟨p2, ws, _, rfl, (wv.keep (k12.trans k6)).ne hp7, k8.at_ hp7', pairs_ext k8.ext0 hpp7, fun q hq => ⟨(po1 q hq).1, (po1 q hq).2.1⟩, by omega⟩
end
end Ap
set_option Elab.async false
set_option linter.all false
set_option maxRecDepth 100000
set_option maxHeartbeats 4000000
namespace Ap
open PySem PySem.Spec PyProof.Rows L2
abbrev N_law_great_right : List Str := ["_law_well_here", "_law_one_here", "_law_other", "_law_paper", "_law_whole", "_law_mine", "_law_at", "_law_its", "_law_fewer", "_law_size", "_law_k"]
theorem sc_law_great_right : FnScope N_law_great_right ["_law_well_here"] (defScope s_law_great_right) := ⟨rfl, rfl, rfl, by decide +kernel, rfl, by decide +kernel, by decide +kernel⟩

def spGreat : Sp := fun vs H Q _ => ∃ l : Addr, vs = [.ref l] ∧ WellV H l ∧ ∀ H', Keep [l] H H' → Q (.bl true) H'
/-- the graph at v, not D, is a ring -/
def RG (C D : Addr) (H : Hp) (v : V) (N : Nat) : Prop := ∃ g dx t vs, v = .ref g ∧ g ≠ D ∧ H g = some (.ins C dx (gfs t 0)) ∧ H t = some (.tup vs) ∧ Paired (NdV H) vs (ring N)
theorem gx_rg {C D : Addr} : GX [] J0 D (RG C D) := gx0 fun H H' v b k e ⟨g, dx, t, vs, h1, h2, h3, h4, h5⟩ => ⟨g, dx, t, vs, h1, h2, k.at1 h2 h3, e _ _ h4, nds_ext e h5⟩
theorem cut_lo {xs : List V} {k : Nat} : cutV xs none (some (k : Int)) = xs.take k := by
  unfold cutV
  rw [HT.sIx_none, HT.sIx_nat, List.drop_zero, Nat.sub_zero]
  rcases Nat.le_total k xs.length with h | h
  · rw [Nat.min_eq_left h]
  · rw [Nat.min_eq_right h, List.take_of_length_le (Nat.le_refl _), List.take_of_length_le h]
theorem cut_hi {xs : List V} {k : Nat} : cutV xs (some (k : Int)) none = xs.drop k := by
  unfold cutV
  rw [HT.sIx_none, HT.sIx_nat]
  rcases Nat.le_total k xs.length with h | h
  · rw [Nat.min_eq_left h, List.take_of_length_le (by rw [List.length_drop]; omega)]
  · rw [Nat.min_eq_right h, List.drop_of_length_le (Nat.le_refl _), List.drop_of_length_le h, List.take_nil]
theorem grid_snoc (a b : Nat) : grid (a + 1) b = grid a b ++ (List.range b).map fun j => (a, j) := by
  unfold grid
  rw [List.range_succ, List.flatMap_append]
  simp
theorem ring_lay {N : Nat} : ∀ nd ∈ ring N, Lay nd := fun nd h => by
  obtain ⟨x, _, rfl⟩ := ring_mem h
  exact first_lay (.inr (.inr (.inl rfl))) trivial
section
variable {P : Program} {w : World} {K : PySem.W.Frag} {mg : Str → Option Value} {base : Heap}
theorem w_law_great_right {C : Addr} (T : Txt K mg) (cG : ClG P w K mg base C) (c_law_draw : Cl P w K mg base 1 "_law_draw" spDraw) (c_paper_of : Cl P w K mg base 3 "paper_of" (spPaper C)) (c_judged : Cl P w K mg base 3 "judged" (spJudged K C))
    (D : Dn K mg "_law_great_right" s_law_great_right) : Cl P w K mg base 6 "_law_great_right" spGreat := by
  have GG := cG.gc
  refine cl_of D sc_law_great_right (fun vs H Q E h => ?_) (fun _ _ _ _ _ _ us hl => match us, hl with | [_], _ => rfl) fun f cdv A outer s H vs Q E hr h => ?_
  · obtain ⟨l, rfl, _⟩ := h
    rfl
  obtain ⟨l, rfl, wv, hQ⟩ := h
  have hu65 : (A.deeper (envOfC "_law_great_right" (defScope s_law_great_right) s.heap.objs.size f cdv)).units + 65 < cLine := by have := hr.un; omega
  refine ⟨_, PSs.nox (pss_cons (ps_asg (pe_lc (own := [("_law_size", 9)]) (g := (gName 9)) (tt := tYes) rfl sc_law_great_right.nd (pi_tup (pe_tup (pa_cons pe_int (pa_cons pe_int pa_nil)))) (blkOk_by (own := [("_law_size", 9)]) (N := N_law_great_right) (sc := (defScope s_law_great_right)) (by decide +kernel)) (fun _ _ _ _ _ => (pg_name (i := 9) sc_law_great_right.nd rfl (Or.inr rfl))) (fun _ _ _ _ _ => pts_nil) (fun _ _ _ _ _ => (pe_graph1 cG hr (by decide) rfl (pa_cons (pe_lc (own := [("_law_k", 10)]) (g := (gName 10)) (tt := tYes) rfl sc_law_great_right.nd (pi_range1 (by rfl) T.range_ (pa_cons (pv 9) pa_nil)) (blkOk_by (own := [("_law_k", 10)]) (N := N_law_great_right) (sc := (relS _ (defScope s_law_great_right))) (by decide +kernel)) (fun _ _ _ _ _ => (pg_name (i := 10) sc_law_great_right.nd rfl (Or.inl rfl))) (fun _ _ _ _ _ => pts_nil) (fun _ _ _ _ _ => (pe_tup (pa_cons pe_str (pa_cons pe_str (pa_cons (pe_tup (pa_cons (pe_op op_mod (pe_callTy call_int1 (by rfl) T.int_ PyProof.Rows.boot_int (pa_cons (pe_op op_add (pv 10) pe_int) pa_nil)) (pv 9)) pa_nil)) pa_nil)))))) pa_nil)))) (pg_unl (by rfl) (pgs_cons (pg_name (i := 1) sc_law_great_right.nd rfl (Or.inl rfl)) (pgs_cons (pg_name (i := 2) sc_law_great_right.nd rfl (Or.inl rfl)) pgs_nil)))) (pss_cons (ps_par (by rfl) sc_law_great_right.nd (i := 3) (j := 4) rfl rfl (by decide) rfl rfl (pa_cons (pe_cl c_paper_of hr (by decide) rfl (pa_cons (pv 1) (pa_cons (pv 2) pa_nil))) (pa_cons (pe_lst pa_nil) pa_nil)) (by rfl)) (pss_cons (ps_for PassesOwn.never rfl (pi_range1 (by rfl) T.range_ (pa_cons pe_int pa_nil)) (pg_name (i := 5) sc_law_great_right.nd rfl (Or.inr rfl)) (pss_one (ps_set (i := 4) sc_law_great_right.nd rfl (Or.inl rfl) (pe_op op_cat (pv 4) (pe_lc (own := [("_law_its", 7)]) (g := (gName 7)) (tt := tYes) rfl sc_law_great_right.nd (pi_range1 (by rfl) T.range_ (pa_cons pe_int pa_nil)) (blkOk_by (own := [("_law_its", 7)]) (N := N_law_great_right) (sc := (defScope s_law_great_right)) (by decide +kernel)) (fun _ _ _ _ _ => (pg_name (i := 7) sc_law_great_right.nd rfl (Or.inl rfl))) (fun _ _ _ _ _ => pts_nil) (fun _ _ _ _ _ => (pe_tup (pa_cons (pv 5) (pa_cons (pv 7) pa_nil))))))))) (pss_cons (ps_if (PW.pt (pw_or (pt_cmpR op_isN (pv 3) pe_non (nomark _)) (pw_or (pt_cmpR op_notN (pe_cl c_judged hr (by decide) rfl (pa_cons (pv 1) (pa_cons (pv 2) (pa_cons (pv 3) pa_nil)))) pe_non (nomark _)) (pw_or1 (pt_cmpR op_notN (pe_cl c_judged hr (by decide) rfl (pa_cons (pv 1) (pa_cons (pv 2) (pa_cons (pe_callTy call_tuple_of (by rfl) T.tuple_ PyProof.Rows.boot_tuple (pa_cons (pv 4) pa_nil)) pa_nil)))) pe_non (nomark _)))))) (pss_one (ps_ret pe_bl)) pss_nil) (pss_cons (ps_set (i := 6) sc_law_great_right.nd rfl (Or.inl rfl) (pe_cl c_law_draw hr (by decide) rfl (pa_cons (pv 0) (pa_cons pe_int pa_nil)))) (pss_cons (ps_asg (pe_ix ix_list (pv 4) (pv 6) (fun _ _ => rfl)) (pg_tup (by rfl) (pgs_cons (pg_name (i := 5) sc_law_great_right.nd rfl (Or.inr rfl)) (pgs_cons (pg_name (i := 7) sc_law_great_right.nd rfl (Or.inl rfl)) pgs_nil)))) (pss_cons (ps_set (i := 8) sc_law_great_right.nd rfl (Or.inl rfl) (pe_op op_cat (pe_slice sl_list (pv 4) po_none (po_some (pv 6))) (pe_slice sl_list (pv 4) (po_some (pe_op op_add (pv 6) pe_int)) po_none))) (pss_one (ps_ret (pe_cmpR op_eq (pe_cl c_judged hr (by decide) rfl (pa_cons (pv 1) (pa_cons (pv 2) (pa_cons (pv 8) pa_nil)))) (pe_bm PySem.F.plainAttrs_list PySem.F.slot_list_index PySem.F.type_list_index (mt_indexD hu65) (pv 8) (pa_cons (pe_tup (pa_cons (pe_op op_mod (pe_callTy call_int1 (by rfl) T.int_ PyProof.Rows.boot_int (pa_cons (pe_op op_add (pv 5) pe_int) pa_nil)) pe_int) (pa_cons (pe_op op_mod (pe_callTy call_int1 (by rfl) T.int_ PyProof.Rows.boot_int (pa_cons (pe_op op_add (pv 7) pe_int) pa_nil)) pe_int) pa_nil))) pa_nil)) (nomark _))))))))))), ?_⟩
  refine ⟨(by show 2 ≤ sizeLine; decide), fun tp htp => ?_⟩
  have ktp : Keep [] H (upd H tp (.tup [.int 40, .int 50])) := keep_new htp
  have htp' : upd H tp (.tup [.int 40, .int 50]) tp = some (.tup ([40, 50].map nV)) := upd_same
  generalize upd H tp (.tup [.int 40, .int 50]) = H1 at *
  refine ⟨tp, rfl, ⟨_, SqT.of htp'⟩, fun D0 hD0 => ?_⟩
  refine lc_it (walk_tup (xs := [40, 50].map nV)) (Gath H1 [] J0 D0 [40, 50] (fun N => some N) (RG C D0)) (gath0 hD0 trivial) (fun _ H _ p => SqT.of (p.keep.at_ htp')) ?_ ?_
  · rintro i x H2 H3 hi p ⟨rfl, ex⟩
    obtain ⟨N, hN, rfl⟩ := map_get ex
    have hN2 : 0 < N ∧ N ≤ 100 := by
      have := List.mem_of_getElem? hN
      simp only [List.mem_cons, List.not_mem_nil, or_false] at this
      omega
    refine ⟨rfl, yes_ ?_⟩
    refine ⟨_, rfl, _, rfl, by omega, by omega, fun D1 hD1 => ?_⟩
    have hD0' : ∃ ys, H3 D0 = some (.lst ys) := by
      obtain ⟨_, _, ys, hy, _⟩ := p
      exact ⟨ys, hy⟩
    have hrl : (List.range N).length = N := List.length_range
    refine lc_it walk_range (Gath H3 [] J0 D1 (List.range N) (fun k => some (.sq "!!seq" [(k + 1) % N])) NdV) (gath0 hD1 trivial) (fun _ _ _ _ => trivial) ?_ ?_
    · rintro k x H4 H5 hk q ⟨rfl, rfl⟩
      have hk' : k < N := by omega
      refine ⟨rfl, yes_ ?_⟩
      refine ⟨_, rfl, _, _, rfl, rfl, .inl ⟨_, rfl, _, rfl, _, _, rfl, rfl, (by show (0 : Int) < (N : Int); omega), (by show 1 ≤ sizeLine; decide), fun t1 ht1 => ?_⟩⟩
      have kt1 : Keep [] H5 (upd H5 t1 (.tup [.int ((0 + (k : Int) + 1) % (N : Int))])) := keep_new ht1
      have et1 : upd H5 t1 (.tup [.int ((0 + (k : Int) + 1) % (N : Int))]) t1 = some (.tup ([(k + 1) % N].map nV)) := by
        rw [upd_same]
        congr 3
        show V.int _ = V.int _
        congr 1
        push_cast
        rw [Int.zero_add]
      generalize upd H5 t1 (.tup [.int ((0 + (k : Int) + 1) % (N : Int))]) = H6 at *
      refine ⟨(by show 3 ≤ sizeLine; decide), fun t2 ht2 => ?_⟩
      have kt2 : Keep [] H6 (upd H6 t2 (.tup [.str "sequence", .str "!!seq", .ref t1])) := keep_new ht2
      exact q.yes (a := k) (y := .ref t2) (gx0 fun H H' v b k e h => h.ext e) hD1 (List.getElem?_range hk') (by rw [hrl]; exact small_line (by omega)) (kt1.trans kt2) trivial rfl ⟨t2, _, rfl, upd_same, t1, rfl, kt2.at_ et1⟩
    · intro H4 q
      obtain ⟨k4, _, ys, hy, hq⟩ := q.all (by rw [hrl]; omega)
      rw [fm_some] at hq
      obtain ⟨y0, hy0⟩ := hD0'
      refine ⟨D1, rfl, ys, ring N, hy, hq, (fun z => by have := ring_len N; rw [z] at this; simp at this; omega), by rw [ring_len]; omega, fun nd hx => ?_, by rw [ring_len]; omega, fun g H5 k5 hg0 hg => ?_⟩
      · obtain ⟨x, hx2, rfl⟩ := ring_mem hx
        refine ⟨fun y hy => ?_, .inr (.inr (.inl rfl)), by show 1 ≤ 4; decide⟩
        rw [List.mem_singleton.mp hy, ring_len]
        exact hx2
      · obtain ⟨dx, t, vs, g1, g2, g3⟩ := hg
        have hgD : g ≠ D0 := (ne_of_none (k4.at_ hy0) hg0).symm
        exact p.yes gx_rg hD0 hN (by show 2 < sizeLine; decide) (k4.trans k5) trivial rfl ⟨g, dx, t, vs, rfl, hgD, g1, g2, g3⟩
  intro H2 p
  obtain ⟨k2, _, ys, hy, hq⟩ := p.all rfl
  obtain ⟨y1, y2, rfl, ⟨g, dx, t, gv, rfl, _, g1, g2, g3⟩, ⟨h, dy, t', hv, rfl, _, h1, h2, h3⟩⟩ : ∃ y1 y2, ys = [y1, y2] ∧ RG C D0 H2 y1 40 ∧ RG C D0 H2 y2 50 := by
    match ys, hq with
    | _, .cons r1 (.cons r2 .nil) => exact ⟨_, _, rfl, r1, r2⟩
  refine ⟨D0, _, rfl, SqL.of hy, rfl, _, _, rfl, _, _, rfl, rfl, ?_⟩
  have hg : GrAt C H2 g (ring 40) 0 := ⟨dx, t, gv, g1, g2, g3⟩
  have hh : GrAt C H2 h (ring 50) 0 := ⟨dy, t', hv, h1, h2, h3⟩
  have gn : Gok (ring 40) 0 := ring_ok (by decide) (by decide)
  have gm : Gok (ring 50) 0 := ring_ok (by decide) (by decide)
  have heq : eqv_ (ring 40) (ring 50) 0 0 := ring_eqv 40 50 0 0
  have wv2 := wv.keep (ktp.trans k2)
  refine ⟨_, rfl, _, rfl, g, h, ring 40, ring 50, 0, 0, rfl, hg, hh, gn, gm, fun H3 k3 z => absurd heq z, fun H3 P us k3 hP hP' hPp _ => ⟨(by show 0 ≤ sizeLine; decide), fun W hW => ⟨_, _, rfl, ?_⟩⟩⟩
  have kW : Keep [] H3 (upd H3 W (.lst [])) := keep_new hW
  have eW : upd H3 W (.lst []) W = some (.lst []) := upd_same
  generalize upd H3 W (.lst []) = H4 at *
  have k24 := k3.trans kW
  refine ⟨_, rfl, by decide, by decide, ?_⟩
  refine for_it walk_range (fun i σ H6 => Keep [] H4 H6 ∧ ∃ Wi ws u5, H6 Wi = some (.lst ws) ∧ Wi ≠ l ∧ Paired (PairV H6) ws (grid i 50) ∧ σ = [some (.ref l), some (.ref g), some (.ref h), some (.ref P), some (.ref Wi), u5, none, none, none, none, none])
    ⟨Keep.refl _ _, W, [], _, eW, (wv2.keep k3).ne hW, .nil, rfl⟩ (fun _ _ _ _ _ => trivial) ?_ ?_
  · rintro i x σ H6 H7 hi ⟨k6, Wi, ws, u5, hWi, hWl, hpw, rfl⟩ ⟨rfl, rfl⟩
    have hi' : i < 40 := by omega
    refine ⟨_, rfl, _, rfl, by decide, by decide, fun D1 hD1 => ?_⟩
    refine lc_it walk_range (Gath H7 [] J0 D1 (List.range 50) (fun j => some (i, j)) PairV) (gath0 hD1 trivial) (fun _ _ _ _ => trivial) ?_ ?_
    · rintro j x H8 H9 hj p ⟨rfl, rfl⟩
      have hj' : j < 50 := by omega
      refine ⟨rfl, yes_ ?_⟩
      refine ⟨_, rfl, _, rfl, (by show 2 ≤ sizeLine; decide), fun t ht => ?_⟩
      refine p.yes (a := j) (gx0 fun H H' v b k e h => h.ext e) hD1 (List.getElem?_range hj') (by rw [List.length_range]; exact small_line (by decide)) (keep_new ht) trivial rfl ⟨t, rfl, ?_⟩
      rw [upd_same]
      congr 3
      · show V.int (0 + (i : Int)) = nV i
        rw [Int.zero_add]
      · show [V.int (0 + (j : Int))] = [nV j]
        rw [Int.zero_add]
    · intro H8 p
      obtain ⟨k8, _, ys, hy, hq⟩ := p.all (by rw [List.length_range]; rfl)
      rw [fm_some] at hq
      have l1 := paired_len hpw
      have l2 := paired_len hq
      rw [grid_len] at l1
      rw [List.length_map, List.length_range] at l2
      refine ⟨Wi, D1, ws, ys, rfl, rfl, k8.at_ hWi, hy, small_line' (by omega), fun q hq2 => ?_⟩
      have kq : Keep [] H8 (upd H8 q (.lst (ws ++ ys))) := keep_new hq2
      refine ⟨(k6.trans k8).trans kq, q, _, _, upd_same, (wv2.keep (k24.trans (k6.trans k8))).ne hq2, ?_, rfl⟩
      rw [grid_snoc]
      exact paired_cat (pairs_ext kq.ext0 hq) (pairs_ext (k8.ext0.trans kq.ext0) hpw)
  rintro σ H6 ⟨k6, Wi, ws, u5, hWi, hWl, hpw, rfl⟩
  have hpw : Paired (PairV H6) ws (grid 40 50) := hpw
  have wl := paired_len hpw
  rw [grid_len] at wl
  have k26 := k24.trans k6
  have hgl : ∀ p ∈ grid 40 50, p.1 < (ring 40).length ∧ p.2 < (ring 50).length := fun p hp => by
    obtain ⟨i, j⟩ := p
    rw [ring_len, ring_len]
    exact mem_grid.mp hp
  obtain ⟨po1, _, _, _⟩ := paper_ok gn gm heq
  have plen := paper_grid gn gm heq
  rw [ring_len, ring_len] at plen
  have k36 := kW.trans k6
  refine ⟨_, rfl, rfl, _, rfl, iteF ?_⟩
  refine ⟨_, rfl, _, rfl, _, rfl, g, h, ring 40, ring 50, 0, 0, .ref P, rfl, hg.keep k26, hh.keep k26, gn, gm, ring_lay, ring_lay, .inl ⟨P, true, us, _, rfl, k36.at_ hP', pair_el (pairs_ext k36.ext0 hPp) (fun q hq => ⟨(po1 q hq).1, (po1 q hq).2.1⟩), by rw [List.length_map]; omega, fun H7 k7 => ?_⟩⟩
  rw [judge_paper gn gm heq]
  refine ⟨rfl, _, rfl, iteF ?_⟩
  have k27 := k26.trans k7
  have hWi7 := k7.at_ hWi
  have hpw7 := pairs_ext k7.ext0 hpw
  refine ⟨_, rfl, _, rfl, _, rfl, Wi, ws, rfl, .inl ⟨SqL.of hWi7, fun tt htt => ?_⟩⟩
  have ktt : Keep [] H7 (upd H7 tt (.tup ws)) := keep_new htt
  have ett : upd H7 tt (.tup ws) tt = some (.tup ws) := upd_same
  generalize upd H7 tt (.tup ws) = H8 at *
  have k28 := k27.trans ktt
  refine ⟨g, h, ring 40, ring 50, 0, 0, .ref tt, rfl, hg.keep k28, hh.keep k28, gn, gm, ring_lay, ring_lay, .inl ⟨tt, false, ws, _, rfl, ett, pair_el (pairs_ext ktt.ext0 hpw7) hgl, by rw [List.length_map, grid_len]; decide, fun H9 k9 => ?_⟩⟩
  rw [judge_whole (by decide) (by decide)]
  refine ⟨rfl, _, rfl, iteF ?_⟩
  have k29 := k28.trans k9
  have wv9 := wv2.keep k29
  refine ⟨_, rfl, l, 2000, rfl, wv9, by decide, by decide, fun H10 k k10 wv10 hk => ?_⟩
  have lk10 := wv9.lk wv10 k10
  have hWi10 : H10 Wi = some (.lst ws) := k10.at1 hWl ((ktt.trans k9).at_ hWi7)
  have hpw10 := pairs_ext lk10.ext (pairs_ext (ktt.trans k9).ext0 hpw7)
  have hg10 := (hg.keep k29).lk lk10
  have hh10 := (hh.keep k29).lk lk10
  have hkl : k < ws.length := by omega
  obtain ⟨r, hr, tr, ev, htr⟩ := paired_get hpw10 (List.getElem?_eq_getElem hkl)
  obtain ⟨r1, r2⟩ := r
  refine ⟨_, rfl, _, rfl, Wi, ws, _, _, rfl, rfl, SqL.of hWi10, atI_nat (List.getElem?_eq_getElem hkl), ?_⟩
  refine ⟨tr, _, ev, SqT.of htr, rfl, _, _, rfl, _, _, rfl, rfl, ?_⟩
  refine ⟨_, rfl, _, rfl, _, rfl, Wi, ws, rfl, SqL.of hWi10, fun p hp => ?_⟩
  have kp : Keep [] H10 (upd H10 p (.lst (cutV ws none (some (k : Int))))) := keep_new hp
  have ep : upd H10 p (.lst (cutV ws none (some (k : Int)))) p = some (.lst (ws.take k)) := by rw [upd_same, cut_lo]
  generalize upd H10 p (.lst (cutV ws none (some (k : Int)))) = H11 at *
  refine ⟨_, rfl, _, rfl, _, _, rfl, rfl, _, rfl, Wi, ws, rfl, SqL.of (kp.at_ hWi10), fun p2 hp2 => ?_⟩
  have kp2 : Keep [] H11 (upd H11 p2 (.lst (cutV ws (some ((k : Int) + 1)) none))) := keep_new hp2
  have ep2 : upd H11 p2 (.lst (cutV ws (some ((k : Int) + 1)) none)) p2 = some (.lst (ws.drop (k + 1))) := by
    rw [upd_same, show ((k : Int) + 1) = ((k + 1 : Nat) : Int) by push_cast; rfl, cut_hi]
  generalize upd H11 p2 (.lst (cutV ws (some ((k : Int) + 1)) none)) = H12 at *
  refine ⟨p, p2, _, _, rfl, rfl, kp2.at_ ep, ep2, small_line' (by rw [List.length_take, List.length_drop]; omega), fun q hq => ?_⟩
  have kq : Keep [] H12 (upd H12 q (.lst (ws.take k ++ ws.drop (k + 1)))) := keep_new hq
  have eq : upd H12 q (.lst (ws.take k ++ ws.drop (k + 1))) q = some (.lst (ws.take k ++ ws.drop (k + 1))) := upd_same
  generalize upd H12 q (.lst (ws.take k ++ ws.drop (k + 1))) = H13 at *
  have k13 := (kp.trans kp2).trans kq
  have hpf : Paired (PairV H13) (ws.take k ++ ws.drop (k + 1)) (fewer 40 50 k) := by
    have := pairs_ext k13.ext0 hpw10
    exact paired_cat (paired_drop (k + 1) this) (paired_take k this)
  have fl := paired_len hpf
  rw [List.length_append, List.length_take, List.length_drop] at fl
  obtain ⟨f1, f2⟩ := judge_fewer hr
  have fsub : ∀ x ∈ fewer 40 50 k, x.1 < (ring 40).length ∧ x.2 < (ring 50).length := fun x hx => hgl x (((fewer_facts hr).2 x).mp hx).1
  refine ⟨_, rfl, _, rfl, _, rfl, g, h, ring 40, ring 50, 0, 0, .ref q, rfl, hg10.keep k13, hh10.keep k13, gn, gm, ring_lay, ring_lay, .inl ⟨q, true, _, _, rfl, eq, pair_el hpf fsub, by rw [List.length_map]; omega, fun H14 k14 => ?_⟩⟩
  rw [f2]
  have eq14 := k14.at_ eq
  have hpf14 := pairs_ext k14.ext0 hpf
  refine ⟨_, rfl, .inl ⟨rfl, _, SqL.of eq14⟩, ?_⟩
  refine ⟨_, rfl, _, _, rfl, rfl, .inl ⟨_, rfl, _, _, rfl, rfl, (by show (0 : Int) < 40; decide), ?_⟩⟩
  refine ⟨_, rfl, _, _, rfl, rfl, .inl ⟨_, rfl, _, _, rfl, rfl, (by show (0 : Int) < 50; decide), (by show 2 ≤ sizeLine; decide), fun t2 ht2 => ?_⟩⟩
  have kt2 : Keep [] H14 (upd H14 t2 (.tup [.int (((r1 : Int) + 39) % 40), .int (((r2 : Int) + 49) % 50)])) := keep_new ht2
  have et2 : upd H14 t2 (.tup [.int (((r1 : Int) + 39) % 40), .int (((r2 : Int) + 49) % 50)]) t2 = some (.tup [nV (predP (r1, r2)).1, nV (predP (r1, r2)).2]) := by
    rw [upd_same]
    rfl
  generalize upd H14 t2 (.tup [.int (((r1 : Int) + 39) % 40), .int (((r2 : Int) + 49) % 50)]) = H15 at *
  obtain ⟨i1, i2⟩ := idx_first f1
  refine ⟨q, .ref t2, _, _, (fewer 40 50 k).idxOf (predP (r1, r2)), dk (pk (predP (r1, r2))), rfl, rfl, dp_pairs (SqL.of (kt2.at_ eq14)) (pairs_ext kt2.ext0 hpf14), dp_pair et2, dPs_shaped _, shaped_key (lay_pair _), ?_, by rw [dk_eqv]; exact decide_eq_true rfl, fun m z' hm hz => ?_, ?_⟩
  · rw [dkAll_map, List.getElem?_map, i1]
    rfl
  · rw [dkAll_map] at hz
    obtain ⟨x, hx, rfl⟩ := map_get hz
    rw [dk_eqv]
    exact decide_eq_false fun e => i2 m x hm hx (pk_inj e)
  · refine ⟨rfl, ?_⟩
    rw [show decide (jV (some ((fewer 40 50 k).idxOf (predP (r1, r2)))) = V.int (((fewer 40 50 k).idxOf (predP (r1, r2)) : Nat) : Int)) = true from decide_eq_true rfl]
    exact hQ _ ((((ktp.trans k2).trans k29).more.trans k10).trans ((k13.trans k14).trans kt2).more)
end
end Ap
set_option Elab.async false
set_option linter.all false
set_option maxRecDepth 100000
set_option maxHeartbeats 4000000
namespace Ap
open PySem PySem.Spec PyProof.Rows L2
abbrev N_law : List Str := ["_law_script", "_law_cell", "_law_well_here", "_law_turn", "_law_nodes_here", "_law_others", "_law_top", "_law_its_top"]
theorem sc_law : FnScope N_law ["_law_script"] (defScope s_law) := ⟨rfl, rfl, rfl, by decide +kernel, rfl, by decide +kernel, by decide +kernel⟩

def spLaw (K : PySem.W.Frag) : Sp := fun vs H Q _ => ∃ (a : Addr) (ns : List Int), vs = [.ref a] ∧ SqL K H a (ns.map V.int) ∧ ∀ H', Q (.bl true) H'
theorem sql_keep {K : PySem.W.Frag} {H H' : Hp} {a : Addr} {xs : List V} (k : Keep [] H H') (h : SqL K H a xs) : SqL K H' a xs := by
  rcases h with (h | ⟨o, h⟩) | h
  · exact .inl (.inl (k.at_ h))
  · exact .inl (.inr ⟨o, k.at_ h⟩)
  · exact .inr h
section
variable {P : Program} {w : World} {K : PySem.W.Frag} {mg : Str → Option Value} {base : Heap}
theorem w_law {C : Addr} (T : Txt K mg) (c_law_cell_at : Cl P w K mg base 1 "_law_cell_at" (spCellAt K)) (c_law_well : Cl P w K mg base 1 "_law_well" spWell) (c_law_draw : Cl P w K mg base 1 "_law_draw" spDraw) (c_law_nodes : Cl P w K mg base 4 "_law_nodes" spLNodes) (c_law_like : Cl P w K mg base 4 "_law_like" spLike)
    (c_law_right : Cl P w K mg base 6 "_law_right" (spRight C)) (c_law_great_right : Cl P w K mg base 6 "_law_great_right" spGreat)
    {f : Addr} {fd : FuncData} (F : FunD K "law" "law" (defArgs s_law) (defBody s_law) (defScope s_law) [] [] f fd) : FnOk P w K mg base CX0 7 f fd ["_law_script"] (spLaw K) := by
  refine F.ok sc_law (fun vs H Q E h => ?_) fun cdv A outer s H vs Q E hr h => ?_
  · obtain ⟨a, ns, rfl, _⟩ := h
    rfl
  obtain ⟨a, ns, rfl, hS, hQ⟩ := h
  refine ⟨_, PSs.nox (pss_cons (ps_if (pt_not (pt_val (pe_cl c_law_great_right hr (by decide) rfl (pa_cons (pe_cl c_law_well hr (by decide) rfl (pa_cons (pe_cl c_law_cell_at hr (by decide) rfl (pa_cons (pv 0) (pa_cons pe_int pa_nil))) pa_nil)) pa_nil)))) (pss_one (ps_ret pe_bl)) pss_nil) (pss_cons (ps_for PassesOwn.never rfl (pi_list (pe_op op_cat (pe_slice sl_list (pv 0) po_none (po_some pe_int)) (pe_lst (pa_cons pe_int pa_nil)))) (pg_name (i := 1) sc_law.nd rfl (Or.inl rfl)) (pss_cons (ps_set (i := 2) sc_law.nd rfl (Or.inl rfl) (pe_cl c_law_well hr (by decide) rfl (pa_cons (pv 1) pa_nil))) (pss_one (ps_for PassesOwn.never rfl (pi_range1 (by rfl) T.range_ (pa_cons pe_int pa_nil)) (pg_name (i := 3) sc_law.nd rfl (Or.inl rfl)) (pss_cons (ps_set (i := 4) sc_law.nd rfl (Or.inl rfl) (pe_cl c_law_nodes hr (by decide) rfl (pa_cons (pv 2) (pa_cons (pe_op op_add pe_int (pe_cl c_law_draw hr (by decide) rfl (pa_cons (pv 2) (pa_cons pe_int pa_nil)))) pa_nil)))) (pss_cons (ps_par (by rfl) sc_law.nd (i := 5) (j := 6) rfl rfl (by decide) rfl rfl (pa_cons (pe_cl c_law_like hr (by decide) rfl (pa_cons (pv 2) (pa_cons (pv 4) pa_nil))) (pa_cons (pe_cl c_law_draw hr (by decide) rfl (pa_cons (pv 2) (pa_cons (pe_callB call_len (by rfl) T.len_ PySem.boot_len (pa_cons (pv 4) pa_nil)) pa_nil))) pa_nil)) (by rfl)) (pss_cons (ps_set (i := 7) sc_law.nd rfl (Or.inl rfl) (pe_op op_add (pv 6) (pe_op op_mul (pe_callB call_len (by rfl) T.len_ PySem.boot_len (pa_cons (pv 4) pa_nil)) (pe_cl c_law_draw hr (by decide) rfl (pa_cons (pv 2) (pa_cons pe_int pa_nil)))))) (pss_cons (ps_if (pt_cmpR op_eq (pe_cl c_law_draw hr (by decide) rfl (pa_cons (pv 2) (pa_cons pe_int pa_nil))) pe_int (nomark _)) (pss_one (ps_set (i := 7) sc_law.nd rfl (Or.inl rfl) (pe_cl c_law_draw hr (by decide) rfl (pa_cons (pv 2) (pa_cons (pe_callB call_len (by rfl) T.len_ PySem.boot_len (pa_cons (pv 5) pa_nil)) pa_nil))))) pss_nil) (pss_one (ps_if (pt_not (pt_val (pe_cl c_law_right hr (by decide) rfl (pa_cons (pv 2) (pa_cons (pv 4) (pa_cons (pv 6) (pa_cons (pv 5) (pa_cons (pv 7) pa_nil)))))))) (pss_one (ps_ret pe_bl)) pss_nil)))))))))) (pss_one (ps_ret pe_bl)))), ?_⟩
  refine ⟨_, rfl, a, ns, 0, rfl, hS, fun i => ⟨i, rfl, fun H1 l k1 hl hwl => ⟨l, rfl, hwl, fun H2 k2 => ⟨_, rfl, iteF ?_⟩⟩⟩⟩
  have k12 : Keep [] H H2 := (k1.more.trans k2).drop hl
  have hS2 := sql_keep k12 hS
  refine ⟨_, rfl, _, rfl, a, _, rfl, hS2, fun x1 hx1 => ?_⟩
  have kx1 : Keep [] H2 (upd H2 x1 (.lst (cutV (ns.map V.int) none (some 4)))) := keep_new hx1
  have ex1 : upd H2 x1 (.lst (cutV (ns.map V.int) none (some 4))) x1 = some (.lst ((ns.take 4).map V.int)) := by
    rw [upd_same, show (4 : Int) = ((4 : Nat) : Int) from rfl, cut_lo, List.map_take]
  generalize upd H2 x1 (.lst (cutV (ns.map V.int) none (some 4))) = H3 at *
  refine ⟨(by show 1 ≤ sizeLine; decide), fun x2 hx2 => ?_⟩
  have kx2 : Keep [] H3 (upd H3 x2 (.lst [.int 0])) := keep_new hx2
  have ex2 : upd H3 x2 (.lst [.int 0]) x2 = some (.lst [.int 0]) := upd_same
  generalize upd H3 x2 (.lst [.int 0]) = H4 at *
  refine ⟨x1, x2, _, _, rfl, rfl, kx2.at_ ex1, ex2, small_line' (by rw [List.length_map, List.length_take]; show min 4 _ + 1 ≤ _; omega), fun X hX => ?_⟩
  have eX : upd H4 X (.lst ((ns.take 4).map V.int ++ [.int 0])) X = some (.lst ((ns.take 4 ++ [0]).map V.int)) := by rw [upd_same, List.map_append]; rfl
  generalize upd H4 X (.lst ((ns.take 4).map V.int ++ [.int 0])) = H5 at *
  refine ⟨X, rfl, ⟨_, SqL.of eX⟩, ?_⟩
  refine for_it (walk_list (xs := (ns.take 4 ++ [0]).map V.int)) (fun i σ H6 => Keep [] H5 H6 ∧ ∃ u1 u2 u3 u4 u5 u6 u7, σ = [some (.ref a), u1, u2, u3, u4, u5, u6, u7]) ⟨Keep.refl _ _, _, _, _, _, _, _, _, rfl⟩ (fun i σ H6 _ z => SqL.of (z.1.at_ eX)) ?_ ?_
  · rintro i x σ H6 H7 hi ⟨k6, u1, u2, u3, u4, u5, u6, u7, rfl⟩ ⟨rfl, ex⟩
    obtain ⟨c, hc, rfl⟩ := map_get ex
    refine ⟨_, rfl, c, rfl, fun H8 p k8 hp hwp => ?_⟩
    refine ⟨_, rfl, by decide, by decide, ?_⟩
    refine for_it walk_range (fun j σ H9 => Keep [p] H7 H9 ∧ WellV H9 p ∧ ∃ u3 u4 u5 u6 u7, σ = [some (.ref a), some (.int c), some (.ref p), u3, u4, u5, u6, u7]) ⟨k8.more, hwp, _, _, _, _, _, rfl⟩ (fun _ _ _ _ _ => trivial) ?_ ?_
    · rintro j x σ H9 H10 hj ⟨k9, wv9, v3, v4, v5, v6, v7, rfl⟩ ⟨rfl, rfl⟩
      refine ⟨_, rfl, _, rfl, p, 6, rfl, wv9, by decide, by decide, fun H11 r k11 wv11 hr6 => ⟨_, _, rfl, rfl, ?_⟩⟩
      refine ⟨p, 1 + r, by push_cast; rfl, wv11, by omega, by omega, fun H12 q us nodes k12' wv12 hq hq' hpn hnl hok => ?_⟩
      have hqp : q ≠ p := wv11.ne hq
      have ul : us.length = nodes.length := paired_len hpn
      refine ⟨_, rfl, _, rfl, p, q, us, nodes, 1 + r, rfl, wv12, hqp, hq', hpn, hnl, by omega, by omega, hok, fun H13 q2 us2 ms k13 wv13 hq2 hq2' hpm hml hmok => ?_⟩
      have hq2p : q2 ≠ p := wv12.ne hq2
      have ul2 : us2.length = ms.length := paired_len hpm
      have hq13 := k13.at1 hqp hq'
      have hpn13 := nds_ext (wv12.ext k13) hpn
      refine ⟨_, rfl, _, rfl, _, us.length, rfl, .inl ⟨_, SqL.of hq13, rfl⟩, p, us.length, rfl, wv13, by omega, by omega, fun H14 top k14 wv14 ht => ⟨_, _, rfl, ?_⟩⟩
      have hq14 := k14.at1 hqp hq13
      refine ⟨_, rfl, _, rfl, _, us.length, rfl, .inl ⟨_, SqL.of hq14, rfl⟩, _, rfl, p, 2, rfl, wv14, by decide, by decide, fun H15 r2 k15 wv15 hr2 => ⟨_, _, rfl, rfl, .inl ⟨by omega, by omega⟩, _, _, rfl, rfl, ?_⟩⟩
      refine ⟨_, rfl, p, 5, rfl, wv15, by decide, by decide, fun H16 r5 k16 wv16 hr5 => ⟨rfl, _, rfl, ?_⟩⟩
      have kk : Keep [p] H13 H16 := (k14.trans k15).trans k16
      have k916 : Keep [p] H7 H16 := (((k9.trans k11).trans k12').trans k13).trans kk
      have hq16 := kk.at1 hqp hq13
      have hq216 := kk.at1 hq2p hq2'
      have hpn16 := nds_ext (wv13.ext kk) hpn13
      have hpm16 := nds_ext (wv13.ext kk) hpm
      have hgn : ∀ nd ∈ nodes, Ng nodes.length nd := fun nd hx => by rw [hnl]; exact (hok nd hx).ng
      have hgm : ∀ nd ∈ ms, Ng ms.length nd := fun nd hx => by rw [hml]; exact hmok nd hx
      by_cases e0 : nV r5 = V.int 0
      · rw [decide_eq_true e0]
        refine iteT ⟨_, rfl, _, rfl, _, us2.length, rfl, .inl ⟨_, SqL.of hq216, rfl⟩, p, us2.length, rfl, wv16, by omega, by omega, fun H17 it k17 wv17 hit => ?_⟩
        refine ⟨_, rfl, _, rfl, _, rfl, _, rfl, _, rfl, p, q, q2, us, us2, nodes, ms, top, it, rfl, wv17, hqp, hq2p, k17.at1 hqp hq16, k17.at1 hq2p hq216, nds_ext (wv16.ext k17) hpn16, nds_ext (wv16.ext k17) hpm16, hgn, hgm, by omega, by omega, by omega, by omega, fun H18 k18 wv18 => ?_⟩
        exact ⟨_, rfl, iteF ⟨(k916.trans k17).trans k18, wv18, _, _, _, _, _, rfl⟩⟩
      · rw [decide_eq_false e0]
        have hrr : us.length * r2 ≤ us.length := by
          have h1 : us.length * r2 ≤ us.length * 1 := Nat.mul_le_mul_left _ (by omega)
          omega
        refine iteF ⟨_, rfl, _, rfl, _, rfl, _, rfl, _, rfl, p, q, q2, us, us2, nodes, ms, top, top + us.length * r2, by push_cast; rfl, wv16, hqp, hq2p, hq16, hq216, hpn16, hpm16, hgn, hgm, by omega, by omega, by omega, by omega, fun H18 k18 wv18 => ?_⟩
        exact ⟨_, rfl, iteF ⟨k916.trans k18, wv18, _, _, _, _, _, rfl⟩⟩
    · rintro σ H9 ⟨k9, wv9, v3, v4, v5, v6, v7, rfl⟩
      exact ⟨k6.trans (k9.drop hp), _, _, _, _, _, _, _, rfl⟩
  · rintro σ H6 ⟨k6, u1, u2, u3, u4, u5, u6, u7, rfl⟩
    exact hQ _
end
end Ap
set_option Elab.async false
set_option linter.all false
set_option maxRecDepth 100000
set_option maxHeartbeats 0
namespace Ap
open PySem PySem.Spec PyProof.Rows L2

def fn : List He.DefD := [
  ⟨("are_signs", none), "are_signs", "are_signs", defArgs s_are_signs, defBody s_are_signs, defScope s_are_signs, [], []⟩,
  ⟨("is_tag", none), "is_tag", "is_tag", defArgs s_is_tag, defBody s_is_tag, defScope s_is_tag, [], []⟩,
  ⟨("is_from", none), "is_from", "is_from", defArgs s_is_from, defBody s_is_from, defScope s_is_from, [], []⟩,
  ⟨("is_entry", none), "is_entry", "is_entry", defArgs s_is_entry, defBody s_is_entry, defScope s_is_entry, [], []⟩,
  ⟨("is_node", none), "is_node", "is_node", defArgs s_is_node, defBody s_is_node, defScope s_is_node, [], []⟩,
  ⟨("require_graphs", none), "require_graphs", "require_graphs", defArgs s_require_graphs, defBody s_require_graphs, defScope s_require_graphs, [], []⟩,
  ⟨("shifted", none), "shifted", "shifted", defArgs s_shifted, defBody s_shifted, defScope s_shifted, [], []⟩,
  ⟨("joined", none), "joined", "joined", defArgs s_joined, defBody s_joined, defScope s_joined, [], []⟩,
  ⟨("numbered", none), "numbered", "numbered", defArgs s_numbered, defBody s_numbered, defScope s_numbered, [], []⟩,
  ⟨("first_key", none), "first_key", "first_key", defArgs s_first_key, defBody s_first_key, defScope s_first_key, [], []⟩,
  ⟨("next_key", none), "next_key", "next_key", defArgs s_next_key, defBody s_next_key, defScope s_next_key, [], []⟩,
  ⟨("rounds_of", none), "rounds_of", "rounds_of", defArgs s_rounds_of, defBody s_rounds_of, defScope s_rounds_of, [], []⟩,
  ⟨("first_unlike", none), "first_unlike", "first_unlike", defArgs s_first_unlike, defBody s_first_unlike, defScope s_first_unlike, [], []⟩,
  ⟨("apart", none), "apart", "apart", defArgs s_apart, defBody s_apart, defScope s_apart, [], []⟩,
  ⟨("equal", none), "equal", "equal", defArgs s_equal, defBody s_equal, defScope s_equal, [], []⟩,
  ⟨("goals", none), "goals", "goals", defArgs s_goals, defBody s_goals, defScope s_goals, [], []⟩,
  ⟨("paper_of", none), "paper_of", "paper_of", defArgs s_paper_of, defBody s_paper_of, defScope s_paper_of, [], []⟩,
  ⟨("equal_goals", none), "equal_goals", "equal_goals", defArgs s_equal_goals, defBody s_equal_goals, defScope s_equal_goals, [], []⟩,
  ⟨("is_pair", none), "is_pair", "is_pair", defArgs s_is_pair, defBody s_is_pair, defScope s_is_pair, [], []⟩,
  ⟨("stands", none), "stands", "stands", defArgs s_stands, defBody s_stands, defScope s_stands, [], []⟩] ++ ([
  ⟨("judged", none), "judged", "judged", defArgs s_judged, defBody s_judged, defScope s_judged, [], []⟩,
  ⟨("_law_cell_at", none), "_law_cell_at", "_law_cell_at", defArgs s_law_cell_at, defBody s_law_cell_at, defScope s_law_cell_at, [], []⟩,
  ⟨("_law_well", none), "_law_well", "_law_well", defArgs s_law_well, defBody s_law_well, defScope s_law_well, [], []⟩,
  ⟨("_law_draw", none), "_law_draw", "_law_draw", defArgs s_law_draw, defBody s_law_draw, defScope s_law_draw, [], []⟩,
  ⟨("_law_one", none), "_law_one", "_law_one", defArgs s_law_one, defBody s_law_one, defScope s_law_one, [], []⟩,
  ⟨("_law_node", none), "_law_node", "_law_node", defArgs s_law_node, defBody s_law_node, defScope s_law_node, [], []⟩,
  ⟨("_law_nodes", none), "_law_nodes", "_law_nodes", defArgs s_law_nodes, defBody s_law_nodes, defScope s_law_nodes, [], []⟩,
  ⟨("_law_starts", none), "_law_starts", "_law_starts", defArgs s_law_starts, defBody s_law_starts, defScope s_law_starts, [], []⟩,
  ⟨("_law_go_on", none), "_law_go_on", "_law_go_on", defArgs s_law_go_on, defBody s_law_go_on, defScope s_law_go_on, [], []⟩,
  ⟨("_law_rounds", none), "_law_rounds", "_law_rounds", defArgs s_law_rounds, defBody s_law_rounds, defScope s_law_rounds, [], []⟩,
  ⟨("_law_shift", none), "_law_shift", "_law_shift", defArgs s_law_shift, defBody s_law_shift, defScope s_law_shift, [], []⟩,
  ⟨("_law_side_by_side", none), "_law_side_by_side", "_law_side_by_side", defArgs s_law_side_by_side, defBody s_law_side_by_side, defScope s_law_side_by_side, [], []⟩,
  ⟨("_law_is_pair", none), "_law_is_pair", "_law_is_pair", defArgs s_law_is_pair, defBody s_law_is_pair, defScope s_law_is_pair, [], []⟩,
  ⟨("_law_stands", none), "_law_stands", "_law_stands", defArgs s_law_stands, defBody s_law_stands, defScope s_law_stands, [], []⟩,
  ⟨("_law_due", none), "_law_due", "_law_due", defArgs s_law_due, defBody s_law_due, defScope s_law_due, [], []⟩,
  ⟨("_law_like", none), "_law_like", "_law_like", defArgs s_law_like, defBody s_law_like, defScope s_law_like, [], []⟩,
  ⟨("_law_bent", none), "_law_bent", "_law_bent", defArgs s_law_bent, defBody s_law_bent, defScope s_law_bent, [], []⟩,
  ⟨("_law_right", none), "_law_right", "_law_right", defArgs s_law_right, defBody s_law_right, defScope s_law_right, [], []⟩,
  ⟨("_law_great_right", none), "_law_great_right", "_law_great_right", defArgs s_law_great_right, defBody s_law_great_right, defScope s_law_great_right, [], []⟩,
  ⟨("law", none), "law", "law", defArgs s_law, defBody s_law, defScope s_law, [], []⟩,
  ⟨("Graph", some "__init__"), "__init__", "Graph.__init__", defArgs s_init, defBody s_init, defScope s_init, [.int 0], []⟩] : List He.DefD)
def fa : List He.Fa := [.glo "are_signs", .glo "is_tag", .glo "is_from", .glo "is_entry", .glo "is_node", .glo "require_graphs", .glo "shifted", .glo "joined", .glo "numbered", .glo "first_key", .glo "next_key", .glo "rounds_of", .glo "first_unlike", .glo "apart", .glo "equal", .glo "goals", .glo "paper_of", .glo "equal_goals", .glo "is_pair", .glo "stands"] ++ ([.glo "judged", .glo "_law_cell_at", .glo "_law_well", .glo "_law_draw", .glo "_law_one", .glo "_law_node", .glo "_law_nodes", .glo "_law_starts", .glo "_law_go_on", .glo "_law_rounds", .glo "_law_shift", .glo "_law_side_by_side", .glo "_law_is_pair", .glo "_law_stands", .glo "_law_due", .glo "_law_like", .glo "_law_bent", .glo "_law_right", .glo "_law_great_right", .glo "law", .glo "Graph"] ++ ([.free "all", .free "any", .free "list", .free "tuple", .free "dict", .free "len", .free "isinstance", .free "str", .free "int", .free "bool", .free "zip", .free "range", .free "sorted", .free "enumerate", .str "TAG_SIGNS" "abcdefghijklmnopqrstuvwxyzABCDEFGHIJKLMNOPQRSTUVWXYZ0123456789-#;/?:@&=+$_.~*'()", .int "MOST_NODES" 200, .int "MOST_NUMBERS" 1000, .cls "Graph", .noat "Graph" "nodes", .noat "Graph" "top", .mkr "Graph", .keep "Graph"] : List He.Fa) : List He.Fa)
def loose : List PySem.Str := ((["PageError", "NoGraph", "TAG_SIGNS", "are_signs", "is_tag", "MOST_NODES", "MOST_NUMBERS", "is_from", "is_entry", "is_node", "Graph", "require_graphs", "shifted", "joined", "numbered", "first_key", "next_key", "rounds_of", "first_unlike", "apart", "equal", "goals", "paper_of"] : List PySem.Str)) ++ (["equal_goals", "is_pair", "stands", "judged", "_law_cell_at", "_law_well", "_law_draw", "_law_one", "_law_node", "_law_nodes", "_law_within", "_law_starts", "_law_go_on", "_law_rounds", "_law_parts_at", "_law_shift", "_law_side_by_side", "_law_is_pair", "_law_stands", "_law_due", "_law_like", "_law_bent", "_law_right", "_law_great_right"] : List PySem.Str)

/-- what isinstance asks of the class Graph, as a look -/
def isiB (K : PySem.W.Frag) : Bool :=
  He.eqO (PySem.W.findIn K (.ref (He.ga K "Graph")) "__class__") (some (some (.builtin "object.__class__"))) && (decide (PySem.W.specialIn K (.builtin "object.__class__") "__get__" = some (some (.builtin "getset_descriptor.__get__"))) &&
    (decide (PySem.W.takesIn K (.builtin "object.__class__") = some true) && (decide (PySem.W.mroIn K (He.ga K "Graph") (.type "object") = some true) && (decide (PySem.W.kitOne K (.ref (He.ga K "Graph")) (.ref (He.ga K "Graph")) = some true) &&
    (decide (PySem.W.kitOne K (.ref (He.ga K "Graph")) (.type "list") = some false) && decide (PySem.W.kitOne K (.ref (He.ga K "Graph")) (.type "tuple") = some false))))))
abbrev AlX : Type := Bool × He.AlD
def hookX (n : Nat) (ex : PySem.W.Frag → Bool) (fa : List He.Fa) (fn : List He.DefD) : PySem.W.Hook where
  α := AlX
  obs := fun s => (ex (He.frG s.heap.get? (He.asD s.heap.get? n)), He.obsDG n fa fn s.heap.get?)
  val := fun _ => (true, He.valD fn)
  says := fun _ h => ∃ K : PySem.W.Frag, K.In h ∧ ex K = true ∧ He.SaysD fa fn K
  of := fun _ _ e => ⟨_, He.frG_in, congrArg (fun z : AlX => z.1) e, congrArg (fun z : AlX => z.2) e⟩
  keeps := fun _ _ _ ⟨K, hK, x, c⟩ k => ⟨K, PySem.W.Frag.In.keeps hK k, x, c⟩
abbrev R : PySem.W.OpenRow := PySem.W.OpenLaw.row PySem.Challenge.rw_anchorpages_k47_whole_papers_of_equality
abbrev hk : PySem.W.Hook := hookX 5 isiB fa fn
def ob (s : PySem.W.SharedT) : AlX := (isiB (He.frG (HandSHeadRun.getT s) (He.asD (HandSHeadRun.getT s) 5)), He.obsDG 5 fa fn (HandSHeadRun.getT s))
theorem ob_eq (s : PySem.W.SharedT) : ob s = hk.obs s.abs := by
  have e : HandSHeadRun.getT s = s.abs.heap.get? := funext (HandSHeadRun.getT_eq s)
  unfold ob
  rw [e]
  rfl
theorem run (w : World) : HandSHeadRun.RunEq R (PySem.W.view R.prog [52]) hk ob 3000 loose w := by
  intro os
  kernel_rfl
end Ap
set_option Elab.async false
set_option linter.all false
set_option maxRecDepth 100000
set_option maxHeartbeats 4000000
namespace Ap
open PySem PySem.Spec PyProof.Rows L2
theorem facts {P : Program} {w : World} {K : PySem.W.Frag} {h : Heap} {mg : Str → Option Value} {f : Addr} (X : K.In h) (G : h.Ns mainGlobals mg) (hfa : mg ("law" : Str) = some (.ref f)) (hx : isiB K = true) (c : He.SaysD fa fn K) :
    ∃ fd : FuncData, (∀ (s : Shared) (v : Value), BindsTo s fd ⟨[v], []⟩ [("_law_script", v)]) ∧ ∀ base : Heap, K.In base → base.Ns mainGlobals mg → FnOk P w K mg base CX0 7 f fd ["_law_script"] (spLaw K) := by
  unfold isiB at hx
  simp only [Bool.and_eq_true, decide_eq_true_eq] at hx
  obtain ⟨i1, i2, i3, i4, i5, i6, i7⟩ := hx
  have GG : GC K mg (He.ga K "Graph") := ⟨He.glo_ok X G (c.fact 40 (f := .glo "Graph") rfl), He.cls_ok (c.fact 58 (f := .cls "Graph") rfl), He.noat_ok (c.fact 59 (f := .noat "Graph" "nodes") rfl), He.noat_ok (c.fact 60 (f := .noat "Graph" "top") rfl), He.eqO_ok i1, i2, i3, i4, i5, i6, i7⟩
  have T : Txt K mg := ⟨He.free_ok X G (c.fact 41 (f := .free "all") rfl), He.free_ok X G (c.fact 42 (f := .free "any") rfl), He.free_ok X G (c.fact 43 (f := .free "list") rfl), He.free_ok X G (c.fact 44 (f := .free "tuple") rfl), He.free_ok X G (c.fact 45 (f := .free "dict") rfl), He.free_ok X G (c.fact 46 (f := .free "len") rfl), He.free_ok X G (c.fact 47 (f := .free "isinstance") rfl), He.free_ok X G (c.fact 48 (f := .free "str") rfl), He.free_ok X G (c.fact 49 (f := .free "int") rfl), He.free_ok X G (c.fact 50 (f := .free "bool") rfl), He.free_ok X G (c.fact 51 (f := .free "zip") rfl), He.free_ok X G (c.fact 52 (f := .free "range") rfl), He.free_ok X G (c.fact 53 (f := .free "sorted") rfl), He.free_ok X G (c.fact 54 (f := .free "enumerate") rfl)⟩
  have mTag : ∃ t, mg "TAG_SIGNS" = some (.str signs t) := He.str_ok X G (c.fact 55 (f := .str "TAG_SIGNS" signs) rfl)
  have mNodes : ∃ t, mg "MOST_NODES" = some (.int 200 t) := He.int_ok X G (c.fact 56 (f := .int "MOST_NODES" 200) rfl)
  have mNums : ∃ t, mg "MOST_NUMBERS" = some (.int 1000 t) := He.int_ok X G (c.fact 57 (f := .int "MOST_NUMBERS" 1000) rfl)
  have D_are_signs : Dn K mg "are_signs" s_are_signs := by
    obtain ⟨fd, F⟩ := c.def_ 0 (d := ⟨("are_signs", none), "are_signs", "are_signs", defArgs s_are_signs, defBody s_are_signs, defScope s_are_signs, [], []⟩) rfl
    exact ⟨⟨_, fd, F, He.glo_ok X G (c.fact 0 (f := .glo "are_signs") rfl)⟩⟩
  have D_is_tag : Dn K mg "is_tag" s_is_tag := by
    obtain ⟨fd, F⟩ := c.def_ 1 (d := ⟨("is_tag", none), "is_tag", "is_tag", defArgs s_is_tag, defBody s_is_tag, defScope s_is_tag, [], []⟩) rfl
    exact ⟨⟨_, fd, F, He.glo_ok X G (c.fact 1 (f := .glo "is_tag") rfl)⟩⟩
  have D_is_from : Dn K mg "is_from" s_is_from := by
    obtain ⟨fd, F⟩ := c.def_ 2 (d := ⟨("is_from", none), "is_from", "is_from", defArgs s_is_from, defBody s_is_from, defScope s_is_from, [], []⟩) rfl
    exact ⟨⟨_, fd, F, He.glo_ok X G (c.fact 2 (f := .glo "is_from") rfl)⟩⟩
  have D_is_entry : Dn K mg "is_entry" s_is_entry := by
    obtain ⟨fd, F⟩ := c.def_ 3 (d := ⟨("is_entry", none), "is_entry", "is_entry", defArgs s_is_entry, defBody s_is_entry, defScope s_is_entry, [], []⟩) rfl
    exact ⟨⟨_, fd, F, He.glo_ok X G (c.fact 3 (f := .glo "is_entry") rfl)⟩⟩
  have D_is_node : Dn K mg "is_node" s_is_node := by
    obtain ⟨fd, F⟩ := c.def_ 4 (d := ⟨("is_node", none), "is_node", "is_node", defArgs s_is_node, defBody s_is_node, defScope s_is_node, [], []⟩) rfl
    exact ⟨⟨_, fd, F, He.glo_ok X G (c.fact 4 (f := .glo "is_node") rfl)⟩⟩
  have D_require_graphs : Dn K mg "require_graphs" s_require_graphs := by
    obtain ⟨fd, F⟩ := c.def_ 5 (d := ⟨("require_graphs", none), "require_graphs", "require_graphs", defArgs s_require_graphs, defBody s_require_graphs, defScope s_require_graphs, [], []⟩) rfl
    exact ⟨⟨_, fd, F, He.glo_ok X G (c.fact 5 (f := .glo "require_graphs") rfl)⟩⟩
  have D_shifted : Dn K mg "shifted" s_shifted := by
    obtain ⟨fd, F⟩ := c.def_ 6 (d := ⟨("shifted", none), "shifted", "shifted", defArgs s_shifted, defBody s_shifted, defScope s_shifted, [], []⟩) rfl
    exact ⟨⟨_, fd, F, He.glo_ok X G (c.fact 6 (f := .glo "shifted") rfl)⟩⟩
  have D_joined : Dn K mg "joined" s_joined := by
    obtain ⟨fd, F⟩ := c.def_ 7 (d := ⟨("joined", none), "joined", "joined", defArgs s_joined, defBody s_joined, defScope s_joined, [], []⟩) rfl
    exact ⟨⟨_, fd, F, He.glo_ok X G (c.fact 7 (f := .glo "joined") rfl)⟩⟩
  have D_numbered : Dn K mg "numbered" s_numbered := by
    obtain ⟨fd, F⟩ := c.def_ 8 (d := ⟨("numbered", none), "numbered", "numbered", defArgs s_numbered, defBody s_numbered, defScope s_numbered, [], []⟩) rfl
    exact ⟨⟨_, fd, F, He.glo_ok X G (c.fact 8 (f := .glo "numbered") rfl)⟩⟩
  have D_first_key : Dn K mg "first_key" s_first_key := by
    obtain ⟨fd, F⟩ := c.def_ 9 (d := ⟨("first_key", none), "first_key", "first_key", defArgs s_first_key, defBody s_first_key, defScope s_first_key, [], []⟩) rfl
    exact ⟨⟨_, fd, F, He.glo_ok X G (c.fact 9 (f := .glo "first_key") rfl)⟩⟩
  have D_next_key : Dn K mg "next_key" s_next_key := by
    obtain ⟨fd, F⟩ := c.def_ 10 (d := ⟨("next_key", none), "next_key", "next_key", defArgs s_next_key, defBody s_next_key, defScope s_next_key, [], []⟩) rfl
    exact ⟨⟨_, fd, F, He.glo_ok X G (c.fact 10 (f := .glo "next_key") rfl)⟩⟩
  have D_rounds_of : Dn K mg "rounds_of" s_rounds_of := by
    obtain ⟨fd, F⟩ := c.def_ 11 (d := ⟨("rounds_of", none), "rounds_of", "rounds_of", defArgs s_rounds_of, defBody s_rounds_of, defScope s_rounds_of, [], []⟩) rfl
    exact ⟨⟨_, fd, F, He.glo_ok X G (c.fact 11 (f := .glo "rounds_of") rfl)⟩⟩
  have D_first_unlike : Dn K mg "first_unlike" s_first_unlike := by
    obtain ⟨fd, F⟩ := c.def_ 12 (d := ⟨("first_unlike", none), "first_unlike", "first_unlike", defArgs s_first_unlike, defBody s_first_unlike, defScope s_first_unlike, [], []⟩) rfl
    exact ⟨⟨_, fd, F, He.glo_ok X G (c.fact 12 (f := .glo "first_unlike") rfl)⟩⟩
  have D_apart : Dn K mg "apart" s_apart := by
    obtain ⟨fd, F⟩ := c.def_ 13 (d := ⟨("apart", none), "apart", "apart", defArgs s_apart, defBody s_apart, defScope s_apart, [], []⟩) rfl
    exact ⟨⟨_, fd, F, He.glo_ok X G (c.fact 13 (f := .glo "apart") rfl)⟩⟩
  have D_equal : Dn K mg "equal" s_equal := by
    obtain ⟨fd, F⟩ := c.def_ 14 (d := ⟨("equal", none), "equal", "equal", defArgs s_equal, defBody s_equal, defScope s_equal, [], []⟩) rfl
    exact ⟨⟨_, fd, F, He.glo_ok X G (c.fact 14 (f := .glo "equal") rfl)⟩⟩
  have D_goals : Dn K mg "goals" s_goals := by
    obtain ⟨fd, F⟩ := c.def_ 15 (d := ⟨("goals", none), "goals", "goals", defArgs s_goals, defBody s_goals, defScope s_goals, [], []⟩) rfl
    exact ⟨⟨_, fd, F, He.glo_ok X G (c.fact 15 (f := .glo "goals") rfl)⟩⟩
  have D_paper_of : Dn K mg "paper_of" s_paper_of := by
    obtain ⟨fd, F⟩ := c.def_ 16 (d := ⟨("paper_of", none), "paper_of", "paper_of", defArgs s_paper_of, defBody s_paper_of, defScope s_paper_of, [], []⟩) rfl
    exact ⟨⟨_, fd, F, He.glo_ok X G (c.fact 16 (f := .glo "paper_of") rfl)⟩⟩
  have D_equal_goals : Dn K mg "equal_goals" s_equal_goals := by
    obtain ⟨fd, F⟩ := c.def_ 17 (d := ⟨("equal_goals", none), "equal_goals", "equal_goals", defArgs s_equal_goals, defBody s_equal_goals, defScope s_equal_goals, [], []⟩) rfl
    exact ⟨⟨_, fd, F, He.glo_ok X G (c.fact 17 (f := .glo "equal_goals") rfl)⟩⟩
  have D_is_pair : Dn K mg "is_pair" s_is_pair := by
    obtain ⟨fd, F⟩ := c.def_ 18 (d := ⟨("is_pair", none), "is_pair", "is_pair", defArgs s_is_pair, defBody s_is_pair, defScope s_is_pair, [], []⟩) rfl
    exact ⟨⟨_, fd, F, He.glo_ok X G (c.fact 18 (f := .glo "is_pair") rfl)⟩⟩
  have D_stands : Dn K mg "stands" s_stands := by
    obtain ⟨fd, F⟩ := c.def_ 19 (d := ⟨("stands", none), "stands", "stands", defArgs s_stands, defBody s_stands, defScope s_stands, [], []⟩) rfl
    exact ⟨⟨_, fd, F, He.glo_ok X G (c.fact 19 (f := .glo "stands") rfl)⟩⟩
  have D_judged : Dn K mg "judged" s_judged := by
    obtain ⟨fd, F⟩ := c.def_ 20 (d := ⟨("judged", none), "judged", "judged", defArgs s_judged, defBody s_judged, defScope s_judged, [], []⟩) rfl
    exact ⟨⟨_, fd, F, He.glo_ok X G (c.fact 20 (f := .glo "judged") rfl)⟩⟩
  have D_law_cell_at : Dn K mg "_law_cell_at" s_law_cell_at := by
    obtain ⟨fd, F⟩ := c.def_ 21 (d := ⟨("_law_cell_at", none), "_law_cell_at", "_law_cell_at", defArgs s_law_cell_at, defBody s_law_cell_at, defScope s_law_cell_at, [], []⟩) rfl
    exact ⟨⟨_, fd, F, He.glo_ok X G (c.fact 21 (f := .glo "_law_cell_at") rfl)⟩⟩
  have D_law_well : Dn K mg "_law_well" s_law_well := by
    obtain ⟨fd, F⟩ := c.def_ 22 (d := ⟨("_law_well", none), "_law_well", "_law_well", defArgs s_law_well, defBody s_law_well, defScope s_law_well, [], []⟩) rfl
    exact ⟨⟨_, fd, F, He.glo_ok X G (c.fact 22 (f := .glo "_law_well") rfl)⟩⟩
  have D_law_draw : Dn K mg "_law_draw" s_law_draw := by
    obtain ⟨fd, F⟩ := c.def_ 23 (d := ⟨("_law_draw", none), "_law_draw", "_law_draw", defArgs s_law_draw, defBody s_law_draw, defScope s_law_draw, [], []⟩) rfl
    exact ⟨⟨_, fd, F, He.glo_ok X G (c.fact 23 (f := .glo "_law_draw") rfl)⟩⟩
  have D_law_one : Dn K mg "_law_one" s_law_one := by
    obtain ⟨fd, F⟩ := c.def_ 24 (d := ⟨("_law_one", none), "_law_one", "_law_one", defArgs s_law_one, defBody s_law_one, defScope s_law_one, [], []⟩) rfl
    exact ⟨⟨_, fd, F, He.glo_ok X G (c.fact 24 (f := .glo "_law_one") rfl)⟩⟩
  have D_law_node : Dn K mg "_law_node" s_law_node := by
    obtain ⟨fd, F⟩ := c.def_ 25 (d := ⟨("_law_node", none), "_law_node", "_law_node", defArgs s_law_node, defBody s_law_node, defScope s_law_node, [], []⟩) rfl
    exact ⟨⟨_, fd, F, He.glo_ok X G (c.fact 25 (f := .glo "_law_node") rfl)⟩⟩
  have D_law_nodes : Dn K mg "_law_nodes" s_law_nodes := by
    obtain ⟨fd, F⟩ := c.def_ 26 (d := ⟨("_law_nodes", none), "_law_nodes", "_law_nodes", defArgs s_law_nodes, defBody s_law_nodes, defScope s_law_nodes, [], []⟩) rfl
    exact ⟨⟨_, fd, F, He.glo_ok X G (c.fact 26 (f := .glo "_law_nodes") rfl)⟩⟩
  have D_law_starts : Dn K mg "_law_starts" s_law_starts := by
    obtain ⟨fd, F⟩ := c.def_ 27 (d := ⟨("_law_starts", none), "_law_starts", "_law_starts", defArgs s_law_starts, defBody s_law_starts, defScope s_law_starts, [], []⟩) rfl
    exact ⟨⟨_, fd, F, He.glo_ok X G (c.fact 27 (f := .glo "_law_starts") rfl)⟩⟩
  have D_law_go_on : Dn K mg "_law_go_on" s_law_go_on := by
    obtain ⟨fd, F⟩ := c.def_ 28 (d := ⟨("_law_go_on", none), "_law_go_on", "_law_go_on", defArgs s_law_go_on, defBody s_law_go_on, defScope s_law_go_on, [], []⟩) rfl
    exact ⟨⟨_, fd, F, He.glo_ok X G (c.fact 28 (f := .glo "_law_go_on") rfl)⟩⟩
  have D_law_rounds : Dn K mg "_law_rounds" s_law_rounds := by
    obtain ⟨fd, F⟩ := c.def_ 29 (d := ⟨("_law_rounds", none), "_law_rounds", "_law_rounds", defArgs s_law_rounds, defBody s_law_rounds, defScope s_law_rounds, [], []⟩) rfl
    exact ⟨⟨_, fd, F, He.glo_ok X G (c.fact 29 (f := .glo "_law_rounds") rfl)⟩⟩
  have D_law_shift : Dn K mg "_law_shift" s_law_shift := by
    obtain ⟨fd, F⟩ := c.def_ 30 (d := ⟨("_law_shift", none), "_law_shift", "_law_shift", defArgs s_law_shift, defBody s_law_shift, defScope s_law_shift, [], []⟩) rfl
    exact ⟨⟨_, fd, F, He.glo_ok X G (c.fact 30 (f := .glo "_law_shift") rfl)⟩⟩
  have D_law_side_by_side : Dn K mg "_law_side_by_side" s_law_side_by_side := by
    obtain ⟨fd, F⟩ := c.def_ 31 (d := ⟨("_law_side_by_side", none), "_law_side_by_side", "_law_side_by_side", defArgs s_law_side_by_side, defBody s_law_side_by_side, defScope s_law_side_by_side, [], []⟩) rfl
    exact ⟨⟨_, fd, F, He.glo_ok X G (c.fact 31 (f := .glo "_law_side_by_side") rfl)⟩⟩
  have D_law_is_pair : Dn K mg "_law_is_pair" s_law_is_pair := by
    obtain ⟨fd, F⟩ := c.def_ 32 (d := ⟨("_law_is_pair", none), "_law_is_pair", "_law_is_pair", defArgs s_law_is_pair, defBody s_law_is_pair, defScope s_law_is_pair, [], []⟩) rfl
    exact ⟨⟨_, fd, F, He.glo_ok X G (c.fact 32 (f := .glo "_law_is_pair") rfl)⟩⟩
  have D_law_stands : Dn K mg "_law_stands" s_law_stands := by
    obtain ⟨fd, F⟩ := c.def_ 33 (d := ⟨("_law_stands", none), "_law_stands", "_law_stands", defArgs s_law_stands, defBody s_law_stands, defScope s_law_stands, [], []⟩) rfl
    exact ⟨⟨_, fd, F, He.glo_ok X G (c.fact 33 (f := .glo "_law_stands") rfl)⟩⟩
  have D_law_due : Dn K mg "_law_due" s_law_due := by
    obtain ⟨fd, F⟩ := c.def_ 34 (d := ⟨("_law_due", none), "_law_due", "_law_due", defArgs s_law_due, defBody s_law_due, defScope s_law_due, [], []⟩) rfl
    exact ⟨⟨_, fd, F, He.glo_ok X G (c.fact 34 (f := .glo "_law_due") rfl)⟩⟩
  have D_law_like : Dn K mg "_law_like" s_law_like := by
    obtain ⟨fd, F⟩ := c.def_ 35 (d := ⟨("_law_like", none), "_law_like", "_law_like", defArgs s_law_like, defBody s_law_like, defScope s_law_like, [], []⟩) rfl
    exact ⟨⟨_, fd, F, He.glo_ok X G (c.fact 35 (f := .glo "_law_like") rfl)⟩⟩
  have D_law_bent : Dn K mg "_law_bent" s_law_bent := by
    obtain ⟨fd, F⟩ := c.def_ 36 (d := ⟨("_law_bent", none), "_law_bent", "_law_bent", defArgs s_law_bent, defBody s_law_bent, defScope s_law_bent, [], []⟩) rfl
    exact ⟨⟨_, fd, F, He.glo_ok X G (c.fact 36 (f := .glo "_law_bent") rfl)⟩⟩
  have D_law_right : Dn K mg "_law_right" s_law_right := by
    obtain ⟨fd, F⟩ := c.def_ 37 (d := ⟨("_law_right", none), "_law_right", "_law_right", defArgs s_law_right, defBody s_law_right, defScope s_law_right, [], []⟩) rfl
    exact ⟨⟨_, fd, F, He.glo_ok X G (c.fact 37 (f := .glo "_law_right") rfl)⟩⟩
  have D_law_great_right : Dn K mg "_law_great_right" s_law_great_right := by
    obtain ⟨fd, F⟩ := c.def_ 38 (d := ⟨("_law_great_right", none), "_law_great_right", "_law_great_right", defArgs s_law_great_right, defBody s_law_great_right, defScope s_law_great_right, [], []⟩) rfl
    exact ⟨⟨_, fd, F, He.glo_ok X G (c.fact 38 (f := .glo "_law_great_right") rfl)⟩⟩
  obtain ⟨fd, F⟩ := c.def_ 39 (d := ⟨("law", none), "law", "law", defArgs s_law, defBody s_law, defScope s_law, [], []⟩) rfl
  obtain ⟨fdI, FI⟩ := c.def_ 40 (d := ⟨("Graph", some "__init__"), "__init__", "Graph.__init__", defArgs s_init, defBody s_init, defScope s_init, [.int 0], []⟩) rfl
  have M := He.mkr_ok (c.fact 61 (f := .mkr "Graph") rfl)
  have e := hfa.symm.trans (He.glo_ok X G (c.fact 39 (f := .glo "law") rfl))
  cases e
  have b := FunD.bindsA (ps := ["_law_script"]) F fun _ _ _ _ _ _ us hl => match us, hl with | [_], _ => rfl
  refine ⟨fd, fun s v => b s [v] rfl, fun base _ _ => ?_⟩
  have c_are_signs := w_are_signs (P := P) (w := w) (base := base) T D_are_signs
  have c_is_tag := w_is_tag (P := P) (w := w) (base := base) T mTag c_are_signs D_is_tag
  have c_is_from := w_is_from (P := P) (w := w) (base := base) T D_is_from
  have c_is_entry := w_is_entry (P := P) (w := w) (base := base) T c_is_from D_is_entry
  have c_is_node := w_is_node (P := P) (w := w) (base := base) T mNums c_is_from c_is_entry c_is_tag D_is_node
  have c_require_graphs := w_require_graphs (P := P) (w := w) (base := base) T GG D_require_graphs
  have c_shifted := w_shifted (P := P) (w := w) (base := base) T D_shifted
  have c_joined := w_joined (P := P) (w := w) (base := base) T GG c_shifted D_joined
  have c_numbered := w_numbered (P := P) (w := w) (base := base) T D_numbered
  have c_first_key := w_first_key (P := P) (w := w) (base := base) T D_first_key
  have c_next_key := w_next_key (P := P) (w := w) (base := base) T D_next_key
  have c_rounds_of := w_rounds_of (P := P) (w := w) (base := base) T c_numbered c_first_key c_next_key D_rounds_of
  have c_first_unlike := w_first_unlike (P := P) (w := w) (base := base) T D_first_unlike
  have c_apart := w_apart (P := P) (w := w) (base := base) T GG c_require_graphs c_joined c_rounds_of c_first_unlike D_apart
  have c_equal := w_equal (P := P) (w := w) (base := base) T GG c_apart D_equal
  have c_goals := w_goals (P := P) (w := w) (base := base) T D_goals
  have c_equal_goals := w_equal_goals (P := P) (w := w) (base := base) T c_goals D_equal_goals
  have c_paper_of := w_paper_of (P := P) (w := w) (base := base) T GG c_require_graphs c_joined c_rounds_of c_equal_goals D_paper_of
  have c_is_pair := w_is_pair (P := P) (w := w) (base := base) T GG c_is_from D_is_pair
  have c_stands := w_stands (P := P) (w := w) (base := base) T c_first_key D_stands
  have c_judged := w_judged (P := P) (w := w) (base := base) T GG c_require_graphs c_is_pair c_stands D_judged
  have c_law_cell_at := w_cell_at (P := P) (w := w) (base := base) T D_law_cell_at
  have c_law_well := w_well (P := P) (w := w) (base := base) T D_law_well
  have c_law_draw := w_draw (P := P) (w := w) (base := base) T D_law_draw
  have c_law_one := w_one (P := P) (w := w) (base := base) T c_law_draw D_law_one
  have c_law_node := w_law_node (P := P) (w := w) (base := base) T c_law_draw c_law_one D_law_node
  have c_law_nodes := w_law_nodes (P := P) (w := w) (base := base) T c_law_draw c_law_one c_law_node D_law_nodes
  have c_law_starts := w_law_starts (P := P) (w := w) (base := base) T D_law_starts
  have c_law_shift := w_law_shift (P := P) (w := w) (base := base) T D_law_shift
  have c_law_side_by_side := w_law_side_by_side (P := P) (w := w) (base := base) T c_law_shift D_law_side_by_side
  have c_law_is_pair := w_law_is_pair (P := P) (w := w) (base := base) T GG D_law_is_pair
  have c_law_stands := w_law_stands (P := P) (w := w) (base := base) T c_law_starts D_law_stands
  have c_law_due := w_law_due (P := P) (w := w) (base := base) T GG c_law_is_pair c_law_stands D_law_due
  have c_law_go_on := w_law_go_on (P := P) (w := w) (base := base) T D_law_go_on
  have c_law_rounds := w_law_rounds (P := P) (w := w) (base := base) T c_law_starts c_law_go_on D_law_rounds
  have c_law_like := w_law_like (P := P) (w := w) (base := base) T c_law_draw c_law_node D_law_like
  have c_law_bent := w_law_bent (P := P) (w := w) (base := base) T GG c_law_draw c_law_one D_law_bent
  have cG : ClG P w K mg base (He.ga K "Graph") := clG T GG M mNodes c_is_from c_is_node FI
  have c_law_right := w_law_right T cG c_paper_of c_equal c_law_side_by_side c_law_rounds c_law_due c_judged c_law_bent D_law_right
  have c_law_great_right := w_law_great_right T cG c_law_draw c_paper_of c_judged D_law_great_right
  exact w_law T c_law_cell_at c_law_well c_law_draw c_law_nodes c_law_like c_law_right c_law_great_right F
end Ap
open PySem PySem.W PySem.Calls PyProof.Rows
theorem PySem.Challenge.cw_anchorpages_k47_whole_papers_of_equality_holds : PySem.Challenge.rw_anchorpages_k47_whole_papers_of_equality.Holds := by
  w_on; o_law
  refine HandSHeadRun.head_any (r := OpenLaw.row PySem.Challenge.rw_anchorpages_k47_whole_papers_of_equality) (q := view (OpenLaw.row PySem.Challenge.rw_anchorpages_k47_whole_papers_of_equality).prog [52]) (H := Ap.hk) (ob := Ap.ob) (M := 3000) (loose := Ap.loose) (d := HandSHeadRun.topDef (OpenLaw.row PySem.Challenge.rw_anchorpages_k47_whole_papers_of_equality).prog 52) (kwd := []) Ap.ob_eq
    (by kernel_rfl) (fun s => by kernel_rfl) Ap.run (by kernel_rfl) (by kernel_rfl) (by kernel_rfl) (by rfl) (by first | assumption | decide +kernel) (by decide +kernel) ⟨rfl, rfl, rfl, rfl, rfl, by decide +kernel⟩ ?hw ?hc
  case hw => w_witness2
  case hc =>
    refine L2.walk_ofE (l := PySem.Challenge.rw_anchorpages_k47_whole_papers_of_equality) (n := 63) (k := 7) (x := "_law_script") (CX := L2.CX0) rfl (by decide) (by kernel_rfl) ⟨rfl, by decide, by decide⟩ ?F (fun _ _ _ _ z => z)
    intro w mg fa h Y G hmg0
    obtain ⟨K, KX, hx, c⟩ := Y
    have hmg : mg ("law" : PySem.Str) = some (.ref fa) := by
      have e : (HandSHeadRun.topDef (OpenLaw.row PySem.Challenge.rw_anchorpages_k47_whole_papers_of_equality).prog 52).name = ("law" : PySem.Str) := by kernel_rfl
      rw [← e]
      exact hmg0
    obtain ⟨fd, hb, hF⟩ := Ap.facts (P := (PySem.Challenge.rw_anchorpages_k47_whole_papers_of_equality).prog) (w := w) KX G hmg hx c
    exact ⟨K, fd, Ap.spLaw K, KX, hb, fun H a ns hl _ hS => ⟨a, ns, rfl, hS, fun _ => rfl⟩, hF⟩
