import PyProof.Rows.All
import Wide.All
import OpenK.AllK
import Wide.FinOn
import KE.GoesEnumKw
import HandS.ForMost
import HandS.Zip
import HandS.Codes
import HandS.Wide
import HandS.WideBits
import HandS.Walk
import HandS.IsInst
import HandS.DictComp
import HandS.Defaults
import HandS.StrMore
import HandS.Evl
import HandS.Style
import HandS.Head0
import HandS.Head1
import HandS.Head2
import HandS.HeadEnd
import HandS.HeadHook1
import HandS.HeadHook2
import HandS.HeadHook3
import HandS.HeadHook4
import PyProof.Rows.TmSorted
import PySem.Challenge.RW_skipcounts_k62_whole_kept_texts_and_what
section
set_option autoImplicit false
namespace Sk
/-! Which words are read: sublists; ranks; the reduced and ordered text is the only one. -/
abbrev Tx := List Nat
def Alike (d : Nat) (u v : Tx) : Prop := ∀ w : Tx, w.length ≤ d → (w.Sublist u ↔ w.Sublist v)
theorem Alike.refl (d : Nat) (u : Tx) : Alike d u u := fun _ _ => Iff.rfl
theorem Alike.symm {d : Nat} {u v : Tx} (h : Alike d u v) : Alike d v u := fun w hw => (h w hw).symm
theorem Alike.trans {d : Nat} {u v t : Tx} (h : Alike d u v) (k : Alike d v t) : Alike d u t := fun w hw => (h w hw).trans (k w hw)
theorem Alike.mono {d e : Nat} {u v : Tx} (h : Alike d u v) (hd : e ≤ d) : Alike e u v := fun w hw => h w (Nat.le_trans hw hd)
theorem Alike.append {d : Nat} {u v s t : Tx} (h : Alike d u v) (k : Alike d s t) : Alike d (u ++ s) (v ++ t) := by
  have aux : ∀ {u v s t : Tx}, Alike d u v → Alike d s t → ∀ w : Tx, w.length ≤ d → w.Sublist (u ++ s) → w.Sublist (v ++ t) := by
    intro u v s t h k w hw hs
    obtain ⟨l1, l2, rfl, h1, h2⟩ := List.sublist_append_iff.mp hs
    rw [List.length_append] at hw
    exact List.Sublist.append ((h l1 (by omega)).mp h1) ((k l2 (by omega)).mp h2)
  exact fun w hw => ⟨aux h k w hw, aux h.symm k.symm w hw⟩

def rk : Tx → Nat → Nat
  | [], _ => 0
  | d :: s, c => if c = d then rk s d + 1 else min (rk s c) (rk s d + 1)

theorem rk_wit : ∀ (s : Tx) (c : Nat), ∃ W : Tx, W.length = rk s c ∧ W.Sublist s ∧ ¬ (c :: W).Sublist s
  | [], c => ⟨[], rfl, List.Sublist.refl _, fun h => by cases h⟩
  | d :: s, c => by
    by_cases e : c = d
    · subst e
      obtain ⟨W, h1, h2, h3⟩ := rk_wit s c
      refine ⟨c :: W, by simp [rk, h1], h2.cons_cons c, fun h => h3 (List.cons_sublist_cons.mp h)⟩
    · obtain ⟨W, h1, h2, h3⟩ := rk_wit s c
      obtain ⟨W', k1, k2, k3⟩ := rk_wit s d
      have drop : ∀ Z : Tx, (c :: Z).Sublist (d :: s) → (c :: Z).Sublist s := fun Z h => by
        cases h with
        | cons _ h => exact h
        | cons_cons _ h => exact absurd rfl e
      by_cases hm : rk s c ≤ rk s d + 1
      · refine ⟨W, ?_, h2.cons d, fun h => h3 (drop _ h)⟩
        rw [rk, if_neg e, h1, Nat.min_eq_left hm]
      · refine ⟨d :: W', ?_, k2.cons_cons d, fun h => k3 ?_⟩
        · rw [rk, if_neg e, List.length_cons, k1, Nat.min_eq_right (by omega)]
        · exact (List.sublist_cons_self c (d :: W')).trans (drop _ h)
theorem rk_le : ∀ (s : Tx) (c : Nat) (W : Tx), W.Sublist s → ¬ (c :: W).Sublist s → rk s c ≤ W.length
  | [], _, _, _, _ => Nat.zero_le _
  | d :: s, c, W, h, n => by
    by_cases e : c = d
    · subst e
      rw [rk, if_pos rfl]
      cases h with
      | cons _ h => exact absurd (h.cons_cons c) n
      | cons_cons _ h =>
        rename_i W'
        have := rk_le s c W' h fun z => n (z.cons_cons c)
        simp only [List.length_cons]
        omega
    · rw [rk, if_neg e]
      cases h with
      | cons _ h =>
        have := rk_le s c W h fun z => n (z.cons d)
        omega
      | cons_cons _ h =>
        rename_i W'
        by_cases hd : (d :: W').Sublist s
        · have := rk_le s c (d :: W') hd fun z => n (z.cons d)
          omega
        · have := rk_le s d W' h hd
          simp only [List.length_cons]
          omega
/-- the same from the other side -/
theorem rkr_wit (p : Tx) (c : Nat) : ∃ W : Tx, W.length = rk p.reverse c ∧ W.Sublist p ∧ ¬ (W ++ [c]).Sublist p := by
  obtain ⟨W, h1, h2, h3⟩ := rk_wit p.reverse c
  refine ⟨W.reverse, by rw [List.length_reverse, h1], ?_, fun h => h3 ?_⟩
  · have := h2.reverse
    rwa [List.reverse_reverse] at this
  · have := h.reverse
    rwa [List.reverse_append, List.reverse_reverse] at this
theorem rkr_le (p : Tx) (c : Nat) (W : Tx) (h : W.Sublist p) (n : ¬ (W ++ [c]).Sublist p) : rk p.reverse c ≤ W.length := by
  have := rk_le p.reverse c W.reverse h.reverse fun z => n (by
    have := z.reverse
    rwa [List.reverse_cons, List.reverse_reverse, List.reverse_reverse] at this)
  rwa [List.length_reverse] at this

theorem cut {X Y p q : Tx} {a : Nat} (n : ¬ (X ++ [a]).Sublist p) (h : (X ++ a :: Y).Sublist (p ++ q)) : (a :: Y).Sublist q := by
  obtain ⟨l1, l2, e, h1, h2⟩ := List.sublist_append_iff.mp h
  rcases List.append_eq_append_iff.mp e with ⟨as, e1, e2⟩ | ⟨bs, e1, e2⟩
  · cases as with
    | nil =>
      rw [List.nil_append] at e2
      rw [e2]
      exact h2
    | cons x r =>
      rw [List.cons_append] at e2
      injection e2 with e3 e4
      subst e3
      refine absurd (List.Sublist.trans ?_ h1) n
      rw [e1]
      exact List.Sublist.append (List.Sublist.refl X) (List.Sublist.cons_cons a (List.nil_sublist r))
  · rw [e2] at h2
    exact (List.sublist_append_right bs (a :: Y)).trans h2
theorem uncons {a b : Nat} {Y q : Tx} (ne : a ≠ b) (h : (a :: Y).Sublist (b :: q)) : (a :: Y).Sublist q := by
  cases h with
  | cons _ h => exact h
  | cons_cons _ h => exact absurd rfl ne
theorem unapp {a : Nat} {Y m q : Tx} (ne : a ∉ m) (h : (a :: Y).Sublist (m ++ q)) : (a :: Y).Sublist q := by
  refine cut (X := []) (p := m) (fun z => ne ?_) h
  exact List.singleton_sublist.mp z
theorem tl {a : Nat} {Y q : Tx} (h : (a :: Y).Sublist q) : Y.Sublist q := (List.sublist_cons_self a Y).trans h

def Reduced (k : Nat) (t : Tx) : Prop := ∀ (p : Tx) (c : Nat) (s : Tx), t = p ++ c :: s → rk p.reverse c + rk s c + 2 ≤ k + 1
def Ordered (k : Nat) (t : Tx) : Prop := ∀ (p : Tx) (c d : Nat) (s : Tx), t = p ++ c :: d :: s → rk p.reverse c = rk (p ++ [c]).reverse d → rk (d :: s) c = rk s d → rk p.reverse c + rk s d + 2 = k + 1 → c ≤ d

/-- one step of the comparison: the words behind the first difference -/
theorem behind {k : Nat} {p u v : Tx} {a b : Nat} (al : Alike k (p ++ a :: u) (p ++ b :: v)) (ru : Reduced k (p ++ a :: u)) (ne : a ≠ b) {S : Tx} (hl : S.length = rk u a) (hs : S.Sublist u) : (a :: S).Sublist v := by
  obtain ⟨P, p1, p2, p3⟩ := rkr_wit p a
  have h := ru p a u rfl
  have s1 : (P ++ a :: S).Sublist (p ++ a :: u) := List.Sublist.append p2 (hs.cons_cons a)
  have s2 := (al _ (by rw [List.length_append, List.length_cons]; omega)).mp s1
  exact uncons ne (cut p3 s2)
/-- the ranks of the first difference -/
theorem first_ge {k : Nat} {p u v : Tx} {a b : Nat} (al : Alike k (p ++ a :: u) (p ++ b :: v)) (rv : Reduced k (p ++ b :: v)) (ne : a ≠ b) : k + 1 ≤ rk p.reverse a + rk v b + 2 := by
  obtain ⟨P, p1, p2, p3⟩ := rkr_wit p a
  obtain ⟨T, t1, t2, t3⟩ := rk_wit v b
  have h1 : (b :: T).Sublist u := behind al.symm rv (Ne.symm ne) t1 t2
  by_cases hk : (P ++ a :: b :: T).length ≤ k
  · have s1 : (P ++ a :: b :: T).Sublist (p ++ a :: u) := List.Sublist.append p2 (h1.cons_cons a)
    have s2 := (al _ hk).mp s1
    exact absurd (tl (uncons ne (cut p3 s2))) t3
  · rw [List.length_append, List.length_cons, List.length_cons] at hk
    omega
theorem first_eq {k : Nat} {p u v : Tx} {a b : Nat} (al : Alike k (p ++ a :: u) (p ++ b :: v)) (ru : Reduced k (p ++ a :: u)) (rv : Reduced k (p ++ b :: v)) (ne : a ≠ b) :
    rk p.reverse a = rk p.reverse b ∧ rk u a = rk v b ∧ rk p.reverse b + rk v b + 2 = k + 1 := by
  have h1 := first_ge al rv ne
  have h2 := first_ge al.symm ru (Ne.symm ne)
  have h3 := ru p a u rfl
  have h4 := rv p b v rfl
  omega
/-- from b on, up to the first a, all has the same ranks, in order -/
theorem chain {k : Nat} {p u v : Tx} {a b : Nat} (al : Alike k (p ++ a :: u) (p ++ b :: v)) (ru : Reduced k (p ++ a :: u)) (rv : Reduced k (p ++ b :: v)) (ov : Ordered k (p ++ b :: v)) (ne : a ≠ b) :
    ∀ (n : Nat) (m : Tx) (c : Nat) (m2 : Tx), m.length = n → v = m ++ c :: m2 → a ∉ m → rk (p ++ b :: m).reverse c = rk p.reverse b ∧ rk m2 c = rk v b ∧ b ≤ c := by
  obtain ⟨ea, es, ek⟩ := first_eq al ru rv ne
  intro n
  induction n using Nat.strongRecOn with
  | ind n ih =>
    intro m c m2 hm hv ham
    obtain ⟨P, p1, p2, p3⟩ := rkr_wit p a
    obtain ⟨Q, q1, q2, q3⟩ := rkr_wit p b
    obtain ⟨S, s1, s2, s3⟩ := rk_wit u a
    obtain ⟨Z, z1, z2, z3⟩ := rk_wit m2 c
    obtain ⟨W, w1, w2, w3⟩ := rkr_wit (p ++ b :: m) c
    have haS : (a :: S).Sublist v := behind al ru ne s1 s2
    have hr := rv (p ++ b :: m) c m2 (by rw [hv, List.append_assoc, List.cons_append])
    -- the rank from behind is not less
    have hy : rk v b ≤ rk m2 c := by
      refine Nat.le_of_not_lt fun hlt => ?_
      have hlen1 : (P ++ a :: c :: Z).length ≤ k := by
        rw [List.length_append, List.length_cons, List.length_cons]
        omega
      have hlen2 : (Q ++ b :: c :: Z).length ≤ k := by
        rw [List.length_append, List.length_cons, List.length_cons]
        omega
      have i1 : (Q ++ b :: c :: Z).Sublist (p ++ b :: v) := by
        refine List.Sublist.append q2 (List.Sublist.cons_cons b ?_)
        rw [hv]
        exact (z2.cons_cons c).trans (List.sublist_append_right m (c :: m2))
      have i2 := (al _ hlen2).mpr i1
      have i3 : (c :: Z).Sublist u := tl (uncons (Ne.symm ne) (cut q3 i2))
      have i4 : (P ++ a :: c :: Z).Sublist (p ++ a :: u) := List.Sublist.append p2 (i3.cons_cons a)
      have i5 := cut p3 ((al _ hlen1).mp i4)
      rw [hv] at i5
      have i6 : (a :: c :: Z).Sublist (c :: m2) := unapp ham (uncons ne i5)
      by_cases hac : a = c
      · subst hac
        exact z3 (List.cons_sublist_cons.mp i6)
      · exact z3 (tl (uncons hac i6))
    have hx : rk (p ++ b :: m).reverse c ≤ rk p.reverse b := by omega
    -- the rank from ahead is not less
    have hW : W.Sublist p := by
      refine Classical.byContradiction fun hn => ?_
      -- the first place at which W leaves p
      have leave : ∀ (W1 W2 : Tx), W = W1 ++ W2 → W1.Sublist p → ∃ (W3 : Tx) (e : Nat) (W4 : Tx), W = W3 ++ e :: W4 ∧ W3.Sublist p ∧ ¬ (W3 ++ [e]).Sublist p := by
        intro W1 W2
        induction W2 generalizing W1 with
        | nil =>
          intro e1 e2
          rw [List.append_nil] at e1
          rw [e1] at hn
          exact absurd e2 hn
        | cons e W4 ihW =>
          intro e1 e2
          by_cases he : (W1 ++ [e]).Sublist p
          · exact ihW (W1 ++ [e]) (by rw [e1, List.append_assoc]; rfl) he
          · exact ⟨W1, e, W4, e1, e2, he⟩
      obtain ⟨W3, e, W4, e1, e2, e3⟩ := leave [] W rfl (List.nil_sublist _)
      have hin : (e :: W4).Sublist (b :: m) := by
        rw [e1] at w2
        exact cut e3 w2
      have hmem : e ∈ b :: m := hin.subset (List.mem_cons_self ..)
      have hlen : W.length = W3.length + (W4.length + 1) := by rw [e1, List.length_append, List.length_cons]
      -- where e stands first
      by_cases heb : e = b
      · subst heb
        have := rkr_le p e W3 e2 e3
        omega
      · have hem : e ∈ m := by
          rcases List.mem_cons.mp hmem with h | h
          · exact absurd h heb
          · exact h
        obtain ⟨n1, n2, hn1, hn2⟩ := List.eq_append_cons_of_mem hem
        have hlt : n1.length < n := by
          rw [← hm, hn1, List.length_append, List.length_cons]
          omega
        have hprev := (ih n1.length hlt n1 e (n2 ++ c :: m2) rfl (by rw [hv, hn1, List.append_assoc]; rfl) (fun z => ham (by rw [hn1]; exact List.mem_append_left _ z))).1
        have hle := rkr_le (p ++ b :: n1) e W3 (e2.trans (List.sublist_append_left _ _)) fun z => by
          have z2 := cut (Y := []) e3 z
          have z3 := List.singleton_sublist.mp z2
          rcases List.mem_cons.mp z3 with h | h
          · exact heb h
          · exact hn2 h
        omega
    have hWc : ¬ (W ++ [c]).Sublist p := fun z => w3 (z.trans (List.sublist_append_left _ _))
    have hx2 : rk p.reverse b ≤ rk (p ++ b :: m).reverse c := by
      by_cases hac : a = c
      · subst hac
        have := rkr_le p a W hW hWc
        omega
      · rw [hv] at haS
        have i1 : (a :: S).Sublist m2 := uncons hac (unapp ham haS)
        refine Nat.le_of_not_lt fun hlt => ?_
        have hlen : (W ++ c :: a :: S).length ≤ k := by
          rw [List.length_append, List.length_cons, List.length_cons]
          omega
        have i2 : (W ++ c :: a :: S).Sublist (p ++ b :: v) := by
          refine List.Sublist.append hW ?_
          rw [hv]
          exact ((i1.cons_cons c).trans (List.sublist_append_right m (c :: m2))).cons b
        have i3 := cut hWc ((al _ hlen).mpr i2)
        exact s3 (tl (uncons (Ne.symm hac) i3))
    have hxe : rk (p ++ b :: m).reverse c = rk p.reverse b := Nat.le_antisymm hx hx2
    have hye : rk m2 c = rk v b := by omega
    refine ⟨hxe, hye, ?_⟩
    -- the order: the one ahead of c
    rcases List.eq_nil_or_concat m with hnil | ⟨m', c', hc⟩
    · subst hnil
      refine ov p b c m2 (by rw [hv]; rfl) ?_ ?_ (by omega)
      · rw [← hxe]
      · rw [hye, hv]
        rfl
    · rw [List.concat_eq_append] at hc
      subst hc
      have hlt : m'.length < n := by
        rw [← hm, List.length_append, List.length_singleton]
        omega
      obtain ⟨j1, j2, j3⟩ := ih m'.length hlt m' c' (c :: m2) rfl (by rw [hv, List.append_assoc]; rfl) (fun z => ham (List.mem_append_left _ z))
      have := ov (p ++ b :: m') c' c m2 (by rw [hv]; simp) (by rw [j1, ← hxe]; simp) (by rw [j2, hye]) (by omega)
      exact Nat.le_trans j3 this
/-- the first letters of two alike reduced ordered texts agree -/
theorem no_first {k : Nat} {p u v : Tx} {a b : Nat} (al : Alike k (p ++ a :: u) (p ++ b :: v)) (ru : Reduced k (p ++ a :: u)) (rv : Reduced k (p ++ b :: v)) (ov : Ordered k (p ++ b :: v)) (ne : a ≠ b) : b ≤ a := by
  obtain ⟨S, s1, s2, s3⟩ := rk_wit u a
  have haS : (a :: S).Sublist v := behind al ru ne s1 s2
  have hmem : a ∈ v := haS.subset (List.mem_cons_self ..)
  obtain ⟨n1, n2, hn1, hn2⟩ := List.eq_append_cons_of_mem hmem
  exact (chain al ru rv ov ne n1.length n1 a n2 rfl hn1 hn2).2.2
theorem no_more {k : Nat} {p v : Tx} {b : Nat} (al : Alike k p (p ++ b :: v)) (rv : Reduced k (p ++ b :: v)) : False := by
  obtain ⟨Q, q1, q2, q3⟩ := rkr_wit p b
  have h := rv p b v rfl
  have i : (Q ++ [b]).Sublist (p ++ b :: v) := List.Sublist.append q2 (List.Sublist.cons_cons b (List.nil_sublist _))
  exact q3 ((al _ (by rw [List.length_append, List.length_singleton]; omega)).mpr i)
theorem only_from {k : Nat} : ∀ (u v p : Tx), Alike k (p ++ u) (p ++ v) → Reduced k (p ++ u) → Reduced k (p ++ v) → Ordered k (p ++ u) → Ordered k (p ++ v) → u = v
  | [], [], _, _, _, _, _, _ => rfl
  | [], b :: v, p, al, _, rv, _, _ => (no_more (by rwa [List.append_nil] at al) rv).elim
  | a :: u, [], p, al, ru, _, _, _ => (no_more (by
      have := al.symm
      rwa [List.append_nil] at this) ru).elim
  | a :: u, b :: v, p, al, ru, rv, ou, ov => by
    by_cases e : a = b
    · subst e
      have h := only_from u v (p ++ [a]) (by simpa using al) (by simpa using ru) (by simpa using rv) (by simpa using ou) (by simpa using ov)
      rw [h]
    · have h1 := no_first al ru rv ov e
      have h2 := no_first al.symm rv ru ou (Ne.symm e)
      exact absurd (Nat.le_antisymm h2 h1) e
/-- THE ONLY ONE -/
theorem only {k : Nat} {u v : Tx} (al : Alike k u v) (ru : Reduced k u) (rv : Reduced k v) (ou : Ordered k u) (ov : Ordered k v) : u = v := only_from u v [] al ru rv ou ov
end Sk
end
section
set_option Elab.async false
set_option linter.all false
set_option maxRecDepth 100000
set_option maxHeartbeats 4000000
/-! zip(xs, ys, strict=True) of two lists of one length -/
namespace SkZ
open PySem
open Sem (wp)
abbrev ZipS (h : Heap) (z TI TO : Addr) (f0 : Value) : Prop :=
  h.get? z = some { cls := .type "zip", dict := none, data := .fields #[f0, .bool false, .bool true, .ref TI, .ref TO], slots := #[] }
section
variable {prog : Program} {w : World} {A : Around} {E : Value → Shared → Prop} {s : Shared}
theorem drawn {it l : Addr} {i : Nat} {items : Array Value} {x : Value} {Q : Option Value → Shared → Prop} (hit : s.heap.IsListIter it l i) (hl : s.heap.IsList l items) (hx : items[i]? = some x)
    (hQ : ∀ h', h'.IsListIter it l (i + 1) → Heap.SameBut it s.heap h' → Q (some x) { s with heap := h' }) : wpAny (model prog w) A (Builtin.SmallTypes.nextOrEnd (.ref it)) Q E s := by
  unfold Builtin.SmallTypes.nextOrEnd
  refine wpAny_bind (wpAny_attempt ?_)
  exact wpAny_nextOf_list_item hit hl hx fun h' a b => wpAny_pure (hQ h' a b)
theorem ended {it l : Addr} {i : Nat} {items : Array Value} {Q : Option Value → Shared → Prop} (hh : A.handled = none) (hit : s.heap.IsListIter it l i) (hl : s.heap.IsList l items) (hx : items[i]? = none)
    (hQ : ∀ h', Heap.ExtBut it s.heap h' → Q none { s with heap := h' }) : wpAny (model prog w) A (Builtin.SmallTypes.nextOrEnd (.ref it)) Q E s := by
  unfold Builtin.SmallTypes.nextOrEnd
  refine wpAny_bind (wpAny_attempt ?_)
  refine wpAny_nextOf_list_end hh hit hl hx fun h' e hk he => ?_
  obtain ⟨o, ho, hc⟩ := he
  refine wpAny_bind (wpAny_isInstance (T := "StopIteration") (b := true) ⟨o, ho, hc⟩ isSubtype_stop ?_)
  exact wpAny_pure (hQ h' hk)
theorem stops {α : Type} {Q : α → Shared → Prop} (hh : A.handled = none)
    (hE : ∀ h' e, (∀ c o, s.heap.get? c = some o → h'.get? c = some o) → (∃ o, h'.get? e = some o ∧ o.cls = .type "StopIteration") → E (.ref e) { s with heap := h' }) :
    wpAny (model prog w) A (Builtin.SmallTypes.stopIteration : Sem α) Q E s := by
  unfold Builtin.SmallTypes.stopIteration
  refine wpAny_bind ?_
  simp only [newExc, newTuple]
  refine wpAny_bind (wpAny_newObj_type ?_ (by size_fits))
  refine wpAny_bind (m := firstArgMember _ _) (wpAny_of_eq (a := Value.none) (by first | rfl | (simp only [firstArgMember]; rfl)) ?_)
  refine wpAny_newObj_type ?_ (by size_fits)
  refine wpAny_raiseNew_none hh ?_
  exact hE _ _ (fun c o q => Heap.get?_push_of_some _ (Heap.get?_push_of_some _ q)) ⟨_, Heap.get?_push_size _ rfl, rfl⟩

theorem next_item {z TI TO i1 i2 l1 l2 : Addr} {k1 k2 : Nat} {xs ys : Array Value} {x y a b : Value} {Q : Value → Shared → Prop} (D : ZipApart z TI TO i1 i2 l1 l2)
    (hz : ZipS s.heap z TI TO .none) (hTI : IsPair s.heap TI (.ref i1) (.ref i2)) (hTO : IsPair s.heap TO a b)
    (g1 : s.heap.IsListIter i1 l1 k1) (g2 : s.heap.IsListIter i2 l2 k2) (hl1 : s.heap.IsList l1 xs) (hl2 : s.heap.IsList l2 ys) (hx : xs[k1]? = some x) (hy : ys[k2]? = some y)
    (hQ : ∀ h', ZipS h' z TI TO (rawInt s.heap.objs.size) → IsPair h' TO x y → h'.IsListIter i1 l1 (k1 + 1) → h'.IsListIter i2 l2 (k2 + 1) → IsPair h' s.heap.objs.size x y → h'.objs.size = s.heap.objs.size + 1 →
      (∀ c o, c ≠ z → c ≠ TO → c ≠ i1 → c ≠ i2 → s.heap.get? c = some o → h'.get? c = some o) → Q (.ref s.heap.objs.size) { s with heap := h' }) :
    wpAny (model prog w) A (Builtin.«zip.__next__» ⟨[.ref z], []⟩) (fun fin s' => ∃ v, fin = .done (.ret v) ∧ Q v s') E s := by
  show wpAny _ _ (field (.ref z) 2 >>= _) _ _ _
  refine wpAny_bind (wpAny_field hz rfl (x := .bool true) rfl ?_)
  show wpAny _ _ (field (.ref z) 3 >>= _) _ _ _
  refine wpAny_bind (wpAny_field hz rfl (x := .ref TI) rfl ?_)
  refine wpAny_bind (wpAny_seqItems hTI rfl ?_)
  show wpAny _ _ (Builtin.SmallTypes.ownedTupleIsFree (.ref z) >>= _) _ _ _
  refine wpAny_bind ?_
  unfold Builtin.SmallTypes.ownedTupleIsFree
  refine wpAny_bind (wpAny_field hz rfl (x := .none) rfl (wpAny_pure ?_))
  simp only [if_true]
  refine wpAny_bind (wpAny_rule ?_)
  refine wpAny_bind (wpAny_field hz rfl (x := .ref TO) rfl ?_)
  refine wpAny_bind (wpAny_setField_rec hz (by simp) fun m1 hz1 hs1 => ?_)
  replace hz1 : ZipS m1 z TI TO .ellipsis := hz1
  refine wpAny_bind ?_
  simp only [List.zipIdx_cons, List.zipIdx_nil, List.forIn_cons, List.forIn_nil]
  refine wpAny_bind (wpAny_bind (wpAny_onRaise ?_))
  show wpAny _ _ (Builtin.SmallTypes.nextOrEnd (.ref i1)) _ _ _
  refine drawn (g1.extBut hs1.extBut D.i1z) (hl1.extBut hs1.extBut D.l1z) hx fun m2 n1 hs2 => ?_
  have t2 : IsPair m2 TO a b := hs2.extBut _ _ D.TOi1 (hs1.extBut _ _ D.TOz hTO)
  refine wpAny_bind (wpAny_seqItems t2 rfl ?_)
  refine wpAny_bind (wpAny_updateSeq_pair t2 fun m3 t3 hs3 => ?_)
  replace t3 : IsPair m3 TO x b := t3
  refine wpAny_bind (wpAny_letGo (wpAny_pure ?_))
  refine wpAny_bind (wpAny_bind (wpAny_onRaise ?_))
  show wpAny _ _ (Builtin.SmallTypes.nextOrEnd (.ref i2)) _ _ _
  refine drawn (((g2.extBut hs1.extBut D.i2z).extBut hs2.extBut D.i12.symm).extBut hs3.extBut D.TOi2.symm)
    (((hl2.extBut hs1.extBut D.l2z).extBut hs2.extBut D.l2i1).extBut hs3.extBut D.l2TO) hy fun m4 n2 hs4 => ?_
  have t4 : IsPair m4 TO x b := hs4.extBut _ _ D.TOi2 t3
  refine wpAny_bind (wpAny_seqItems t4 rfl ?_)
  refine wpAny_bind (wpAny_updateSeq_pair t4 fun m5 t5 hs5 => ?_)
  replace t5 : IsPair m5 TO x y := t5
  refine wpAny_bind (wpAny_letGo (wpAny_pure (wpAny_pure ?_)))
  refine wpAny_bind (wpAny_seqItems t5 rfl ?_)
  refine wpAny_bind (wpAny_newTuple ?_)
  have sz5 : m5.objs.size = s.heap.objs.size := by rw [hs5.1, hs4.1, hs3.1, hs2.1, hs1.1]
  have hz5 : ZipS m5 z TI TO .ellipsis := hs5.extBut _ _ D.TOz.symm (hs4.extBut _ _ D.i2z.symm (hs3.extBut _ _ D.TOz.symm (hs2.extBut _ _ D.i1z.symm hz1)))
  have kp : ∀ c o, c ≠ z → c ≠ TO → c ≠ i1 → c ≠ i2 → s.heap.get? c = some o → m5.get? c = some o := fun c o c1 c2 c3 c4 q =>
    hs5.extBut _ _ c2 (hs4.extBut _ _ c4 (hs3.extBut _ _ c2 (hs2.extBut _ _ c3 (hs1.extBut _ _ c1 q))))
  have j1 : m5.IsListIter i1 l1 (k1 + 1) := ((n1.extBut hs3.extBut D.TOi1.symm).extBut hs4.extBut D.i12).extBut hs5.extBut D.TOi1.symm
  have j2 : m5.IsListIter i2 l2 (k2 + 1) := n2.extBut hs5.extBut D.TOi2.symm
  have zlt : z < m5.objs.size := Heap.lt_size hz5
  show wpAny _ _ (Builtin.SmallTypes.ownedTupleHandOut (.ref z) (.ref m5.objs.size) >>= _) _ _ _
  refine wpAny_bind ?_
  unfold Builtin.SmallTypes.ownedTupleHandOut
  have hz6 : ZipS (m5.push { cls := .type "tuple", data := .seq #[x, y] }) z TI TO .ellipsis := Heap.get?_push_of_some _ hz5
  refine wpAny_bind (wpAny_setField_rec hz6 (by simp) fun m7 hz7 hs7 => ?_)
  replace hz7 : ZipS m7 z TI TO (rawInt m5.objs.size) := hz7
  refine wpAny_setField_rec hz7 (by simp) fun m8 hz8 hs8 => ?_
  replace hz8 : ZipS m8 z TI TO (rawInt m5.objs.size) := hz8
  have up : ∀ c o, c ≠ z → m5.get? c = some o → m8.get? c = some o := fun c o c1 q => hs8.extBut _ _ c1 (hs7.extBut _ _ c1 (Heap.get?_push_of_some _ q))
  have t8 : IsPair m8 m5.objs.size x y := hs8.extBut _ _ (Nat.ne_of_gt zlt) (hs7.extBut _ _ (Nat.ne_of_gt zlt) (Heap.get?_push_size _ rfl))
  have sz8 : m8.objs.size = m5.objs.size + 1 := by rw [hs8.1, hs7.1, Heap.size_push]
  rw [sz5] at hz8 t8 sz8
  refine wpAny_pure ⟨_, rfl, ?_⟩
  show Q (.ref m5.objs.size) _
  rw [sz5]
  exact hQ m8 hz8 (up _ _ D.TOz t5) (j1.at fun o q => up _ o D.i1z q) (j2.at fun o q => up _ o D.i2z q) t8 sz8 fun c o c1 c2 c3 c4 q => up c o c1 (kp c o c1 c2 c3 c4 q)

theorem next_end {z TI TO i1 i2 l1 l2 : Addr} {k1 k2 : Nat} {xs ys : Array Value} {a b : Value} {Q : Fin → Shared → Prop} (hh : A.handled = none) (D : ZipApart z TI TO i1 i2 l1 l2)
    (hz : ZipS s.heap z TI TO .none) (hTI : IsPair s.heap TI (.ref i1) (.ref i2)) (hTO : IsPair s.heap TO a b)
    (g1 : s.heap.IsListIter i1 l1 k1) (g2 : s.heap.IsListIter i2 l2 k2) (hl1 : s.heap.IsList l1 xs) (hl2 : s.heap.IsList l2 ys) (hx : xs[k1]? = none) (hy : ys[k2]? = none)
    (hE : ∀ h' e, (∀ c o, c ≠ z → c ≠ TO → c ≠ i1 → c ≠ i2 → s.heap.get? c = some o → h'.get? c = some o) → (∃ o, h'.get? e = some o ∧ o.cls = .type "StopIteration") → E (.ref e) { s with heap := h' }) :
    wpAny (model prog w) A (Builtin.«zip.__next__» ⟨[.ref z], []⟩) Q E s := by
  show wpAny _ _ (field (.ref z) 2 >>= _) _ _ _
  refine wpAny_bind (wpAny_field hz rfl (x := .bool true) rfl ?_)
  show wpAny _ _ (field (.ref z) 3 >>= _) _ _ _
  refine wpAny_bind (wpAny_field hz rfl (x := .ref TI) rfl ?_)
  refine wpAny_bind (wpAny_seqItems hTI rfl ?_)
  show wpAny _ _ (Builtin.SmallTypes.ownedTupleIsFree (.ref z) >>= _) _ _ _
  refine wpAny_bind ?_
  unfold Builtin.SmallTypes.ownedTupleIsFree
  refine wpAny_bind (wpAny_field hz rfl (x := .none) rfl (wpAny_pure ?_))
  simp only [if_true]
  refine wpAny_bind (wpAny_rule ?_)
  refine wpAny_bind (wpAny_field hz rfl (x := .ref TO) rfl ?_)
  refine wpAny_bind (wpAny_setField_rec hz (by simp) fun m1 hz1 hs1 => ?_)
  replace hz1 : ZipS m1 z TI TO .ellipsis := hz1
  refine wpAny_bind ?_
  simp only [List.zipIdx_cons, List.zipIdx_nil, List.forIn_cons, List.forIn_nil]
  refine wpAny_bind (wpAny_bind (wpAny_onRaise ?_))
  show wpAny _ _ (Builtin.SmallTypes.nextOrEnd (.ref i1)) _ _ _
  refine ended hh (g1.extBut hs1.extBut D.i1z) (hl1.extBut hs1.extBut D.l1z) hx fun m2 hs2 => ?_
  have hz2 : ZipS m2 z TI TO .ellipsis := hs2 _ _ D.i1z.symm hz1
  refine wpAny_bind (wpAny_setField_rec hz2 (by simp) fun m3 hz3 hs3 => ?_)
  refine wpAny_bind ?_
  show wpAny _ _ (forIn [(Value.ref i2, 1)] PUnit.unit _ >>= _) _ _ _
  refine wpAny_bind ?_
  simp only [List.forIn_cons, List.forIn_nil]
  refine wpAny_bind (wpAny_bind ?_)
  refine ended hh (((g2.extBut hs1.extBut D.i2z).extBut hs2 D.i12.symm).extBut hs3.extBut D.i2z)
    (((hl2.extBut hs1.extBut D.l2z).extBut hs2 D.l2i1).extBut hs3.extBut D.l2z) hy fun m4 hs4 => ?_
  simp only [Option.isSome_none, Bool.false_eq_true, if_false]
  refine wpAny_pure (wpAny_pure ?_)
  refine wpAny_bind (wpAny_rule ?_)
  refine stops hh fun m5 e hk he => ?_
  exact hE m5 e (fun c o c1 _ c3 c4 q => hk c o (hs4 _ _ c4 (hs3.extBut _ _ c1 (hs2 _ _ c3 (hs1.extBut _ _ c1 q))))) he

theorem pyNext_item {z TI TO i1 i2 l1 l2 : Addr} {k1 k2 : Nat} {xs ys : Array Value} {x y a b : Value} {Q : Option Value → Shared → Prop} (D : ZipApart z TI TO i1 i2 l1 l2)
    (hz : ZipS s.heap z TI TO .none) (hTI : IsPair s.heap TI (.ref i1) (.ref i2)) (hTO : IsPair s.heap TO a b)
    (g1 : s.heap.IsListIter i1 l1 k1) (g2 : s.heap.IsListIter i2 l2 k2) (hl1 : s.heap.IsList l1 xs) (hl2 : s.heap.IsList l2 ys) (hx : xs[k1]? = some x) (hy : ys[k2]? = some y)
    (hQ : ∀ h', ZipS h' z TI TO (rawInt s.heap.objs.size) → IsPair h' TO x y → h'.IsListIter i1 l1 (k1 + 1) → h'.IsListIter i2 l2 (k2 + 1) → IsPair h' s.heap.objs.size x y → h'.objs.size = s.heap.objs.size + 1 →
      (∀ c o, c ≠ z → c ≠ TO → c ≠ i1 → c ≠ i2 → s.heap.get? c = some o → h'.get? c = some o) → Q (some (.ref s.heap.objs.size)) { s with heap := h' }) :
    wpAny (model prog w) A (pyNext (.ref z)) Q E s := by
  have hT : s.TypeIs (.ref z) "zip" := ⟨_, hz, rfl⟩
  unfold pyNext
  exact wpAny_bind (wpAny_attempt (wpAny_callSpecial?_slot (name := Str.ofString "__next__") hT F.slot_zip_next
    (wpAny_call_entry F.slot_zip_next hT F.entry_zip_next
      (next_item D hz hTI hTO g1 g2 hl1 hl2 hx hy fun h' a1 a2 a3 a4 a5 a6 a7 => wpAny_pure (hQ h' a1 a2 a3 a4 a5 a6 a7)) (F.args_zip_next_1 _))))
theorem pyNext_end {z TI TO i1 i2 l1 l2 : Addr} {k1 k2 : Nat} {xs ys : Array Value} {a b : Value} {Q : Option Value → Shared → Prop} (hh : A.handled = none) (D : ZipApart z TI TO i1 i2 l1 l2)
    (hz : ZipS s.heap z TI TO .none) (hTI : IsPair s.heap TI (.ref i1) (.ref i2)) (hTO : IsPair s.heap TO a b)
    (g1 : s.heap.IsListIter i1 l1 k1) (g2 : s.heap.IsListIter i2 l2 k2) (hl1 : s.heap.IsList l1 xs) (hl2 : s.heap.IsList l2 ys) (hx : xs[k1]? = none) (hy : ys[k2]? = none)
    (hQ : ∀ h', (∀ c o, c ≠ z → c ≠ TO → c ≠ i1 → c ≠ i2 → s.heap.get? c = some o → h'.get? c = some o) → Q none { s with heap := h' }) : wpAny (model prog w) A (pyNext (.ref z)) Q E s := by
  have hT : s.TypeIs (.ref z) "zip" := ⟨_, hz, rfl⟩
  unfold pyNext
  refine wpAny_bind (wpAny_attempt (wpAny_callSpecial?_slot (name := Str.ofString "__next__") hT F.slot_zip_next
    (wpAny_call_entry F.slot_zip_next hT F.entry_zip_next (next_end hh D hz hTI hTO g1 g2 hl1 hl2 hx hy fun h' e hk he => ?_) (F.args_zip_next_1 _))))
  obtain ⟨o, ho, hc⟩ := he
  refine wpAny_bind (wpAny_isInstance (T := "StopIteration") (b := true) ⟨o, ho, hc⟩ isSubtype_stop ?_)
  exact wpAny_pure (hQ _ hk)
theorem letGo_zip {elts : List Expr} {x1} {pos : Pos} {z TI TO T : Addr} {Q : Unit → Shared → Prop} (hz : ZipS s.heap z TI TO (rawInt T))
    (hQ : ∀ h', ZipS h' z TI TO .none → Heap.SameBut z s.heap h' → Q () { s with heap := h' }) :
    wpAny (model prog w) A (letOwnedTupleGo (.Tuple elts x1 pos) (.ref z) (.ref T)) Q E s := by
  unfold letOwnedTupleGo
  refine wpAny_bind (wpAny_load hz ?_)
  show wpAny _ _ (if (["enumerate", "zip", "dict_itemiterator", "dict_reverseitemiterator", "odict_iterator", "itertools.zip_longest", "itertools.pairwise"].contains "zip" &&
      (#[rawInt T, .bool false, .bool true, .ref TI, .ref TO] : Array Value)[0]? == some (rawInt T)) = true then _ else _) Q E s
  rw [if_pos (by simp)]
  refine wpAny_bind (wpAny_rule ?_)
  show wpAny _ _ (setField (.ref z) 0 .none) Q E s
  exact wpAny_setField_rec hz (by simp) fun h' hz' hs' => hQ h' hz' hs'
theorem iter_self {z TI TO : Addr} {f0 : Value} {Q : Value → Shared → Prop} (hz : ZipS s.heap z TI TO f0) (h : Q (.ref z) s) : wpAny (model prog w) A (pyIter (.ref z)) Q E s := by
  have hT : s.TypeIs (.ref z) "zip" := ⟨_, hz, rfl⟩
  refine wpAny_pyIter_slot hT F.slot_zip_iter (wpAny_call_entry F.slot_zip_iter hT F.entry_zip_iter ?_ (F.args_zip_iter_1 _))
  show wpAny _ _ (ret (.ref z)) _ _ s
  exact wpAny_pure ⟨_, rfl, "zip", _, hT, F.slot_zip_next.lookup, h⟩
end
abbrev kwS : List (Str × Value) := [(Str.ofString "strict", .bool true)]
theorem typeCall_strict (a b : Value) : checkTypeCall "zip" ⟨[a, b], kwS⟩ = pure () := by kernel_rfl
theorem newCall_strict (a b : Value) : checkBuiltinCall "zip.__new__" ⟨[.type "zip", a, b], kwS⟩ = pure () := by kernel_rfl
theorem init_strict (obj a b : Value) : argsOk "object.__init__" ⟨[obj, a, b], kwS⟩ := by unfold argsOk; kernel_rfl
abbrev zS (h : Heap) (l1 l2 : Addr) : Heap := (zipH4 h l1 l2).push { cls := .type "zip", data := .fields #[.none, .bool false, .bool true, .ref (zipH2 h l1 l2).objs.size, .ref (zipH3 h l1 l2).objs.size] }
theorem meets_new (l1 l2 : Addr) (xs ys : Array Value) :
    Meets (Builtin.«zip.__new__» ⟨[.type "zip", .ref l1, .ref l2], kwS⟩) (fun _ R s => s.heap.IsList l1 xs ∧ s.heap.IsList l2 ys ∧
      R (.ok (.ret (.ref (zipH4 s.heap l1 l2).objs.size))) { s with heap := zS s.heap l1 l2 }) :=
  .of_wp fun prog w A R s h => by
    obtain ⟨hp, g, d, tk, os⟩ := s; obtain ⟨hl1, hl2, h⟩ := h
    have hsub := sub_zip
    have hL1 : Heap.IsList (Shared.heap ⟨hp, g, d, tk, os⟩) l1 xs := hl1
    have hL2 : Heap.IsList (Shared.heap ⟨hp.push { cls := .type "list_iterator", data := .fields #[.ref l1, .int 0 0] }, g, d, tk, os⟩) l2 ys := Heap.IsList.push hl2 _
    have e1 : (Str.ofString "strict" != ("strict" : Str)) = false := by decide +kernel
    wp_walk using wpAny_pyIter_list hL1, wpAny_pyIter_list hL2
    exact ⟨_, rfl, h⟩
section
variable {prog : Program} {w : World} {A : Around} {E : Value → Shared → Prop} {s : Shared}
theorem call_strict {l1 l2 : Addr} {xs ys : Array Value} {Q : Value → Shared → Prop} (hl1 : s.heap.IsList l1 xs) (hl2 : s.heap.IsList l2 ys)
    (h : ∀ h', ZipS h' (s.heap.objs.size + 4) (s.heap.objs.size + 2) (s.heap.objs.size + 3) .none → IsPair h' (s.heap.objs.size + 2) (.ref s.heap.objs.size) (.ref (s.heap.objs.size + 1)) →
      IsPair h' (s.heap.objs.size + 3) .none .none → h'.IsListIter s.heap.objs.size l1 0 → h'.IsListIter (s.heap.objs.size + 1) l2 0 → h'.objs.size = s.heap.objs.size + 5 →
      (∀ c o, s.heap.get? c = some o → h'.get? c = some o) → Q (.ref (s.heap.objs.size + 4)) { s with heap := h' }) :
    wpAny (model prog w) A (call (.type "zip") [.ref l1, .ref l2] kwS) Q E s := by
  refine callType_newKw F.called_zip (by decide) (typeCall_strict _ _) (newCall_strict _ _) (fun obj => init_strict obj _ _) F.entry_zip_new
    (meets_new l1 l2 xs ys) ⟨hl1, hl2, ?_⟩
  have a1 : (zipH1 s.heap l1).objs.size = s.heap.objs.size + 1 := Heap.size_push ..
  have a2 : (zipH2 s.heap l1 l2).objs.size = s.heap.objs.size + 2 := by rw [Heap.size_push, a1]
  have a3 : (zipH3 s.heap l1 l2).objs.size = s.heap.objs.size + 3 := by rw [Heap.size_push, a2]
  have a4 : (zipH4 s.heap l1 l2).objs.size = s.heap.objs.size + 4 := by rw [Heap.size_push, a3]
  have a5 : (zS s.heap l1 l2).objs.size = s.heap.objs.size + 5 := by rw [Heap.size_push, a4]
  have p5 : (zS s.heap l1 l2).get? (zipH4 s.heap l1 l2).objs.size = some _ := Heap.get?_push_size _ rfl
  have p4 : (zS s.heap l1 l2).get? (zipH3 s.heap l1 l2).objs.size = some _ := Heap.get?_push_of_some _ (Heap.get?_push_size _ rfl)
  have p3 : (zS s.heap l1 l2).get? (zipH2 s.heap l1 l2).objs.size = some _ := Heap.get?_push_of_some _ (Heap.get?_push_of_some _ (Heap.get?_push_size _ rfl))
  have p2 : (zS s.heap l1 l2).get? (zipH1 s.heap l1).objs.size = some _ := Heap.get?_push_of_some _ (Heap.get?_push_of_some _ (Heap.get?_push_of_some _ (Heap.get?_push_size _ rfl)))
  have p1 : (zS s.heap l1 l2).get? s.heap.objs.size = some _ := Heap.get?_push_of_some _ (Heap.get?_push_of_some _ (Heap.get?_push_of_some _ (Heap.get?_push_of_some _ (Heap.get?_push_size _ rfl))))
  show _ ∧ _
  rw [a2, a3, a4] at p5
  rw [a1, a2] at p3
  rw [a3] at p4
  rw [a1] at p2
  rw [a4]
  exact ⟨⟨_, p5, rfl⟩, h _ p5 p3 p4 ⟨_, p1, rfl, rfl⟩ ⟨_, p2, rfl, rfl⟩ a5 fun c o q =>
    Heap.get?_push_of_some _ (Heap.get?_push_of_some _ (Heap.get?_push_of_some _ (Heap.get?_push_of_some _ (Heap.get?_push_of_some _ q))))⟩
end
theorem callWith_tyKw {M : Model} {A : Around} {E : Value → Shared → Prop} {s : Shared} {pos : Pos} {T : String} {first : List Value} {args : List (Bool × Sem Value)} {keywords : List (Option Str × Sem Value)} {Q : Value → Shared → Prop}
    (hplain : args.any (·.1) = false) (hkw : keywords.any (·.1.isNone) = false)
    (h : wpAny M A (evalArgs (.type T) true args keywords) (fun a s1 => wpAny M A (call (.type T) (first ++ a.pos) a.kw) Q E s1) E s) :
    wpAny M A (callWith pos (.type T) first args keywords) Q E s := by
  unfold callWith
  refine wpAny_bind (wpAny_holding (wpAny_mono h (fun a s1 h1 => wpAny_bind (wpAny_standAt ?_)) fun _ _ x => x))
  simp only [hplain, hkw, Bool.or_false]
  refine wpAny_bind (wpAny_pure ?_)
  exact wpAny_bind (wpAny_mono h1 (fun r s2 hr => wpAny_bind (wpAny_holding (wpAny_point (wpAny_pure hr)))) fun _ _ x => x)
end SkZ
namespace L2
open PySem PySem.Spec PyProof.Rows SkZ
/-- the same two lists, of one length as long as it goes -/
def ItzS (K : PySem.W.Frag) (a b : Addr) : It :=
  ⟨fun i H => ∃ (xs ys : List V) (x y : V), SqL K H a xs ∧ SqL K H b ys ∧ xs[i]? = some x ∧ ys[i]? = some y,
    fun i H v H' => ∃ T x y, v = .ref T ∧ H T = none ∧ H' = upd H T (.tup [x, y]) ∧ (∀ xs, SqL K H a xs → xs[i]? = some x) ∧ ∀ ys, SqL K H b ys → ys[i]? = some y,
    fun i H => ∃ xs ys : List V, SqL K H a xs ∧ SqL K H b ys ∧ xs.length ≤ i ∧ ys.length ≤ i⟩
theorem turn_zipS {P : Program} {w : World} {K : PySem.W.Frag} {elts : List Expr} {kk : Nat} {tpos : Pos} {a b z TI TO i1 i2 : Addr} (D : ZipApart z TI TO i1 i2 a b) :
    Turn P w K (.Tuple elts kk tpos) (ItzS K a b) [z, TI, TO, i1, i2] z (fun i h => ZipS h z TI TO .none ∧ IsPair h TI (.ref i1) (.ref i2) ∧ (∃ x y, IsPair h TO x y) ∧ h.IsListIter i1 a i ∧ h.IsListIter i2 b i) where
  mem := by simp
  obj := fun i h st c hc => by
    obtain ⟨hz, hTI, ⟨x, y, hTO⟩, ⟨o1, e1, _, d1⟩, ⟨o2, e2, _, d2⟩⟩ := st
    have cs : c = z ∨ c = TI ∨ c = TO ∨ c = i1 ∨ c = i2 := by simpa using hc
    rcases cs with q | q | q | q | q
    · rw [q]; exact ⟨_, hz, fun v q => nomatch q⟩
    · rw [q]; exact ⟨_, hTI, fun v q => nomatch q⟩
    · rw [q]; exact ⟨_, hTO, fun v q => nomatch q⟩
    · rw [q]; exact ⟨o1, e1, fun v q => by rw [d1] at q; cases q⟩
    · rw [q]; exact ⟨o2, e2, fun v q => by rw [d2] at q; cases q⟩
  keep := fun i h h' st k => by
    obtain ⟨hz, hTI, ⟨x, y, hTO⟩, h1, h2⟩ := st
    exact ⟨k z (by simp) _ hz, k TI (by simp) _ hTI, ⟨x, y, k TO (by simp) _ hTO⟩, h1.at fun o q => k i1 (by simp) o q, h2.at fun o q => k i2 (by simp) o q⟩
  item := by
    intro X hP hw hK hc i pins s σ H E I hf st hg
    subst hP hw hK
    obtain ⟨hz, hTI, ⟨x0, y0, hTO⟩, h1, h2⟩ := st
    obtain ⟨xs, ys, x, y, hqx, hqy, hx, hy⟩ := hg
    obtain ⟨its, rv, p, _⟩ := I.list hqx
    obtain ⟨its2, rv2, p2, _⟩ := I.list hqy
    obtain ⟨u, hu, ru⟩ := rv.get hx
    obtain ⟨u2, hu2, ru2⟩ := rv2.get hy
    have zl : z < s.heap.objs.size := Heap.lt_size hz
    refine SkZ.pyNext_item D hz hTI hTO h1 h2 p.isList p2.isList (x := u) (y := u2) (by simpa using hu) (by simpa using hu2) fun h' z' TO' k1 k2 hT hsz hk => ?_
    refine ⟨_, rfl, SkZ.letGo_zip (s := { s with heap := h' }) z' fun h'' z'' sb => ?_⟩
    have hT2 : h''.get? s.heap.objs.size = some { cls := .type "tuple", data := .seq #[u, u2] } := (sb.2 _ (Nat.ne_of_gt zl)).trans hT
    have new : ObjOk X.prog X.w (upd H s.heap.objs.size (.tup [x, y])) h'' s.heap.objs.size (.tup [x, y]) :=
      ⟨by show 2 ≤ sizeLine; decide, [u, u2], .cons ru (.cons ru2 .nil), ⟨_, hT2, rfl, _, rfl⟩⟩
    have I1 : Inv X pins σ (upd H s.heap.objs.size (.tup [x, y])) { s with heap := h'' } :=
      I.turnedNew (t' := s.toks) (ch := [z, TI, TO, i1, i2]) (fun c o hb q => (sb.2 c (fun q' => hb (by simp [q']))).trans (hk c o (fun q' => hb (by simp [q'])) (fun q' => hb (by simp [q'])) (fun q' => hb (by simp [q'])) (fun q' => hb (by simp [q'])) q)) hf (Nat.le_refl _) new
    refine ⟨.ref s.heap.objs.size, _, I1, rfl, ⟨_, x, y, rfl, I.hok.fresh (Nat.le_refl _), rfl, fun l hl => by rw [I.list_inj hl hqx]; exact hx, fun l hl => by rw [I.list_inj hl hqy]; exact hy⟩, ⟨z'', ?_, ⟨u, u2, ?_⟩, ?_, ?_⟩, fun c hcm => ?_⟩
    · exact (sb.2 _ D.TIz).trans (hk _ _ D.TIz D.TITO D.TIi1 D.TIi2 hTI)
    · exact (sb.2 _ D.TOz).trans TO'
    · exact k1.at fun o q => (sb.2 _ D.i1z).trans q
    · exact k2.at fun o q => (sb.2 _ D.i2z).trans q
    · have hlt : c < s.heap.objs.size := by
        have cs : c = z ∨ c = TI ∨ c = TO ∨ c = i1 ∨ c = i2 := by simpa using hcm
        rcases cs with q | q | q | q | q
        · rw [q]; exact zl
        · rw [q]; exact Heap.lt_size hTI
        · rw [q]; exact Heap.lt_size hTO
        · rw [q]; obtain ⟨_, e1, _⟩ := h1; exact Heap.lt_size e1
        · rw [q]; obtain ⟨_, e2, _⟩ := h2; exact Heap.lt_size e2
      rw [upd_ne (Nat.ne_of_lt hlt)]
      exact (hf c hcm).1
  done := by
    intro X hP hw hK hc i pins s σ H E I hf st hg
    subst hP hw hK
    obtain ⟨hz, hTI, ⟨x0, y0, hTO⟩, h1, h2⟩ := st
    obtain ⟨xs, ys, hqx, hqy, he1, he2⟩ := hg
    obtain ⟨its, rv, p, _⟩ := I.list hqx
    obtain ⟨its2, rv2, p2, _⟩ := I.list hqy
    have l1 := rv.length
    have l2 := rv2.length
    have hn1 : its.toArray[i]? = none := by simp; omega
    have hn2 : its2.toArray[i]? = none := by simp; omega
    exact SkZ.pyNext_end (I.ok.hd hc) D hz hTI hTO h1 h2 p.isList p2.isList hn1 hn2 fun h' hk => ⟨rfl, I.turnedL (t' := s.toks) (ch := [z, TI, TO, i1, i2]) (fun c o hb q =>
      hk c o (fun q' => hb (by simp [q'])) (fun q' => hb (by simp [q'])) (fun q' => hb (by simp [q'])) (fun q' => hb (by simp [q'])) q) hf⟩
  self := fun A i s Q E st h => SkZ.iter_self st.1 h
def iZipS (K : PySem.W.Frag) (ta : TA) : TI := fun σ H R => ta σ H fun vs H1 => ∃ a b xs ys, vs = [.ref a, .ref b] ∧ SqL K H1 a xs ∧ SqL K H1 b ys ∧ R (ItzS K a b) H1
theorem pi_zipS {X : Cx} {e e2 : Expr} {ta : TA} {p pos tpos kp kp2 : Pos} {elts : List Expr} {kk j : Nat} (hg : Gl X "zip") (hm : X.mg "zip" = none) (ha : PA X [e, e2] ta)
    (he : starEach (e :: [e2]) X.env = (false, eval e X.env) :: starEach [e2] X.env := by rfl) (hpl : (backTo pos (starEach (e :: [e2]) X.env)).any (·.1) = false := by rfl) :
    PI X (.Tuple elts kk tpos) (.Call (.Name "zip" p) [e, e2] [⟨some (Str.ofString "strict"), .Constant (.bool true) j kp, kp2⟩] pos) (iZipS X.K ta) := by
  refine ⟨fun pins s σ H R I h => ?_⟩
  refine wpAny_Call_Name_kw (ld_blt I hg hm PyProof.Rows.boot_zip ?_)
  refine callWith_tyKw hpl rfl ?_
  refine evalArgs_kw2 rfl (thn (ha.run pos pins s σ H _ I h) fun us s1 ⟨vs, H1, I1, r1, q1⟩ => ?_) he
  refine thn ((pk_cons (nm := some (Str.ofString "strict")) (kpos := kp2) (pe_bl (b := true) (j := j) (pos := kp)) pk_nil).run pos pins s1 σ H1 (fun zs H2 => zs = [.bl true] ∧ H2 = H1) I1 ⟨rfl, rfl⟩) fun ws s2 ⟨zs, H2, I2, r2, q2, q3⟩ => ?_
  subst q2 q3
  cases r2 with
  | cons rb rr =>
  cases rr
  cases rb
  obtain ⟨a, b, xs, ys, ex, hqx, hqy, q⟩ := q1
  subst ex
  cases r1 with
  | cons r rr =>
    cases rr with
    | cons r' rr =>
      cases rr
      cases r
      cases r'
      obtain ⟨its, rv, p1, _⟩ := I2.list hqx
      obtain ⟨its2, rv2, p2, _⟩ := I2.list hqy
      have la : a < s2.heap.objs.size := p1.lt
      have lb : b < s2.heap.objs.size := p2.lt
      refine SkZ.call_strict p1.isList p2.isList fun h' hz hTI hTO h1 h2 hsz hk => SkZ.iter_self hz ?_
      have I3 : Inv X pins σ H2 { s2 with heap := h' } := I2.kept (t' := s2.toks) hk
      refine ⟨s2.heap.objs.size + 4, [s2.heap.objs.size + 4, s2.heap.objs.size + 2, s2.heap.objs.size + 3, s2.heap.objs.size, s2.heap.objs.size + 1], _, _, H2, rfl, I3, turn_zipS (PySem.W.ktu_apart s2.heap.objs.size a b la lb), ⟨hz, hTI, ⟨_, _, hTO⟩, h1, h2⟩, fun c hcm => ?_, q⟩
      have cs : c = s2.heap.objs.size + 4 ∨ c = s2.heap.objs.size + 2 ∨ c = s2.heap.objs.size + 3 ∨ c = s2.heap.objs.size ∨ c = s2.heap.objs.size + 1 := by simpa using hcm
      have hle : s2.heap.objs.size ≤ c := by
        have le : ∀ n : Nat, n ≤ n + 4 ∧ n ≤ n + 2 ∧ n ≤ n + 3 ∧ n ≤ n + 1 := fun n => by omega
        rcases cs with z | z | z | z | z
        · rw [z]; exact (le _).1
        · rw [z]; exact (le _).2.1
        · rw [z]; exact (le _).2.2.1
        · rw [z]; exact Nat.le_refl _
        · rw [z]; exact (le _).2.2.2
      exact I2.fpOk hle (I2.hok.fresh hle)
end L2
end
section
set_option Elab.async false
set_option linter.all false
set_option maxRecDepth 100000
set_option maxHeartbeats 4000000
/-! rules that the layer lacks -/
namespace Sk
open PySem PySem.Spec PyProof.Rows L2 SX
abbrev tV (t : Tx) : V := .str (S t)
theorem S_tlist (t : Tx) : (S t).cps.toList = t := rfl
/-! text * number -/
theorem foldl_cat : ∀ (n : Nat) (c acc : Array Nat), ((List.replicate n c).foldl (· ++ ·) acc).toList = acc.toList ++ (List.replicate n c.toList).flatten
  | 0, c, acc => by simp
  | n + 1, c, acc => by
    rw [List.replicate_succ, List.foldl_cons, foldl_cat n c]
    simp [List.replicate_succ]
def rep (t : Tx) (n : Nat) : Tx := (List.replicate n t).flatten
theorem mul_S (t : Tx) (n : Nat) : Txt.mul (S t) (n : Int) = S (rep t n) := by
  unfold Txt.mul
  by_cases h : (n : Int) < 1
  · have e : n = 0 := by omega
    subst e
    rw [if_pos h]
    rfl
  · rw [if_neg h]
    by_cases h2 : ((n : Int) == 1 || (S t).length == 0) = true
    · rw [if_pos h2]
      rw [Bool.or_eq_true, beq_iff_eq, beq_iff_eq] at h2
      rcases h2 with h2 | h2
      · have e : n = 1 := by omega
        subst e
        simp [rep, List.replicate]
      · rw [S_len] at h2
        have e : t = [] := List.length_eq_zero_iff.mp h2
        subst e
        unfold rep
        rw [List.flatten_replicate_nil]
    · rw [if_neg h2]
      have e := foldl_cat n (S t).cps #[]
      have e2 : ((List.replicate n (S t).cps).foldl (· ++ ·) #[]).toList = rep t n := by
        rw [e]
        rfl
      show (⟨(List.replicate ((n : Int)).toNat (S t).cps).foldl (· ++ ·) #[]⟩ : Str) = S (rep t n)
      rw [Int.toNat_natCast]
      refine congrArg Str.mk (Array.toList_inj.mp ?_)
      rw [e2]
def rMulS : R2 := fun x y H Q => ∃ (t : Tx) (n : Nat), x = tV t ∧ y = .int (n : Int) ∧ t.length ≤ 1000 ∧ n ≤ 1000 ∧ Q (tV (rep t n)) H
theorem op_mulS {X : Cx} : OpR X (binaryOp .Mult) rMulS := by
  intro pins s σ H x y v u Q I rx ry h
  obtain ⟨t, n, rfl, rfl, h1, h2, q⟩ := h
  obtain ⟨k1, rfl⟩ := rx
  obtain ⟨k2, rfl⟩ := ry
  refine SB.mul (mulOk_of 1000 1000 (by rw [S_len]; exact h1) (by omega) (by omega) (by decide) (by decide)) fun t' tk => ?_
  rw [mul_S]
  exact ⟨tV (rep t n), H, I.tok _, ⟨_, rfl⟩, q⟩
/-! text[::-1] -/
theorem rev_pick (t : Tx) : ((Builtin.Str.strSliceIndices none none (-1) t.length).filterMap (t.toArray[·]?)) = t.reverse := by
  have e : Builtin.Str.strSliceIndices none none (-1) t.length = (List.range t.length).map fun k => t.length - 1 - k := by
    unfold Builtin.Str.strSliceIndices sliceRange
    have h1 : ¬ ((-1 : Int) > 0) := by decide
    simp only [h1, if_false]
    by_cases hz : t.length = 0
    · rw [hz]
      rfl
    · have h2 : ((t.length : Int) - 1 > -1) := by omega
      rw [if_pos h2]
      have e1 : (((t.length : Int) - 1 - -1 - -1 - 1) / (- -1)).toNat = t.length := by
        have : ((t.length : Int) - 1 - -1 - -1 - 1) / (- -1) = (t.length : Int) := by
          rw [show (- -1 : Int) = 1 from rfl, Int.ediv_one]
          omega
        rw [this]
        exact Int.toNat_natCast _
      rw [e1]
      refine List.map_congr_left fun k hk => ?_
      have hk := List.mem_range.mp hk
      omega
  rw [e, List.filterMap_map]
  have g : ∀ n, n ≤ t.length → ((List.range n).filterMap ((fun i => t.toArray[i]?) ∘ fun k => t.length - 1 - k)) = (t.reverse).take n := by
    intro n
    induction n with
    | zero =>
      intro _
      rfl
    | succ n ih =>
      intro hn
      rw [List.range_succ, List.filterMap_append, ih (by omega), List.take_add_one]
      refine congrArg _ ?_
      have hlt : t.length - 1 - n < t.length := by omega
      have e1 : t.reverse[n]? = some t[t.length - 1 - n] := by
        rw [List.getElem?_reverse (by omega), List.getElem?_eq_getElem hlt]
      rw [e1]
      simp only [List.filterMap_cons, List.filterMap_nil, Function.comp_apply, List.getElem?_toArray]
      rw [List.getElem?_eq_getElem hlt]
      rfl
  rw [g t.length (Nat.le_refl _)]
  exact List.take_of_length_le (by rw [List.length_reverse]; exact Nat.le_refl _)
def tRevS (te : TE) : TE := fun σ H Q => te σ H fun x H1 => ∃ t : Tx, x = tV t ∧ t.length ≤ 100000 ∧ Q (tV t.reverse) H1
theorem pe_revS {X : Cx} {e : Expr} {te : TE} {k : Nat} {p1 p2 p3 pos : Pos} (he : PE X e te) : PE X (.Subscript e (.Slice none none (some (.UnaryOp .USub (.Constant (.int 1) k p1) p2)) p3) pos) (tRevS te) := by
  refine ⟨fun pins s σ H Q I h => ?_⟩
  refine Subscript_ (thn (he.run pins s σ H _ I h) fun v s1 ⟨x, H1, I1, r1, q1⟩ => ?_)
  obtain ⟨t, ex, hz, q⟩ := q1
  subst ex
  obtain ⟨tk, rfl⟩ := r1
  have hst : PO X (some (.UnaryOp .USub (.Constant (.int 1) k p1) p2)) (tPart (tUn (rU fun i => .int (-i)) (tC (.int 1)))) := po_some (pe_un un_neg pe_int)
  refine wpAny_Slice (thn (po_none.run pins s1 σ H1 (fun o H2 => o = none ∧ H2 = H1) I1 ⟨rfl, rfl⟩) fun vl s2 ⟨l, H2, I2, pl, el, e2⟩ => ?_)
  subst el e2
  refine thn (po_none.run pins s2 σ H2 (fun o H3 => o = none ∧ H3 = H2) I2 ⟨rfl, rfl⟩) fun vu s3 ⟨u, H3, I3, pu, eu, e3⟩ => ?_
  subst eu e3
  refine thn (hst.run pins s3 σ H3 (fun o H4 => o = some (-1) ∧ H4 = H3) I3 ⟨1, rfl, -1, rfl, rfl, rfl⟩) fun vs s4 ⟨o, H4, I4, ps, eo, e4⟩ => ?_
  subst eo e4
  have I5 : Inv X pins σ H4 { s4 with heap := s4.heap.push { cls := .type "slice", data := .fields #[vl, vu, vs] } } := I4.kept (t' := s4.toks) fun b ob q => Heap.get?_push_of_some _ q
  obtain ⟨l', rfl, el⟩ := IsPart.raw pl
  obtain ⟨u', rfl, eu⟩ := IsPart.raw pu
  obtain ⟨w', rfl, ew⟩ := IsPart.raw ps
  cases l' with
  | some _ => cases el
  | none =>
  cases u' with
  | some _ => cases eu
  | none =>
  cases w' with
  | none => cases ew
  | some w' =>
  obtain ⟨wi, wt⟩ := w'
  obtain rfl : wi = (-1 : Int) := Option.some.inj ew
  refine tail_any (ops := [.str (S t) tk, .ref s4.heap.objs.size]) (typeIs_str _ _ _) F.slot_str_getitem.lookup ?_ (by with_unfolding_all rfl)
  refine wpAny_getItem_str_slice (l := none) (u := none) (st := some (-1, wt)) ⟨_, Heap.get?_push_size _ rfl, rfl, rfl⟩ rfl ?_
  show Made.post (if ((-1 : Int) == 1 && (Builtin.Str.strSliceIndices none none (-1) (S t).length).length == (S t).length) = true then Made.val (.str (S t) tk)
    else Made.str ⟨((Builtin.Str.strSliceIndices none none (-1) (S t).length).filterMap ((S t).cps[·]?)).toArray⟩) (EP X pins σ Q) _
  rw [if_neg (show ¬ (((-1 : Int) == 1 && (Builtin.Str.strSliceIndices none none (-1) (S t).length).length == (S t).length) = true) from fun z => by cases z)]
  have e : (⟨((Builtin.Str.strSliceIndices none none (-1) (S t).length).filterMap ((S t).cps[·]?)).toArray⟩ : Str) = S t.reverse := by
    rw [S_len]
    exact congrArg (fun l : List Nat => (⟨l.toArray⟩ : Str)) (rev_pick t)
  rw [e]
  exact ⟨by rw [S_len, List.length_reverse]; exact Nat.le_trans hz (by decide), tV t.reverse, H4, I5.tok _, ⟨_, rfl⟩, q⟩
/-! great powers -/
def CPowW (i j : Int) : Prop := 0 ≤ j ∧ j ≤ 1000 ∧ i.natAbs < 2 ^ 1000
theorem op_powW {X : Cx} : OpR X (binaryOp .Pow) (rI CPowW fun i j => .int (i ^ j.toNat)) := opI fun i j _ _ _ _ _ hc q => by
  refine pow_int hc.1 ?_ q
  have hb : Builtin.Int.intBits i ≤ 1000 := intBits_le hc.2.2
  have h1 : (Builtin.Int.intBits i : Int) * j ≤ 1000 * j := Int.mul_le_mul_of_nonneg_right (by omega) hc.1
  have := hc.2.1
  omega
/-! the walk of zip(.., strict=True) -/
theorem walk_zipS {K : PySem.W.Frag} {a b : Addr} {xs ys : List V} (hn : xs.length = ys.length) : Walk (ItzS K a b) xs.length (fun H => SqL K H a xs ∧ SqL K H b ys) (YPair (fun i => xs[i]?) (fun i => ys[i]?)) := by
  refine ⟨fun i _ hi q => ?_, fun _ q => ⟨xs, ys, q.1, q.2, by omega, by omega⟩, fun i H v H' _ q y => ?_⟩
  · have h2 : i < ys.length := by omega
    exact ⟨xs, ys, xs[i], ys[i], q.1, q.2, by simp [hi], by simp [h2]⟩
  · obtain ⟨T, x, z, h1, h2, h3, h4, h5⟩ := y
    exact ⟨T, x, z, h1, h2, h3, h4 xs q.1, h5 ys q.2⟩
end Sk
end
section
set_option Elab.async false
set_option linter.all false
set_option maxRecDepth 100000
set_option maxHeartbeats 4000000
namespace Sk
open PySem PySem.Spec PyProof.Rows L2 SX
/-! the text by places -/
def top (i : Nat) : Stmt := PySem.Challenge.pw_skipcounts_k62_whole_kept_texts_and_what.main.body.getD i (.Pass ⟨0, 0, 0, 0⟩)
abbrev sIsWhole : Stmt := top 14
def dIsWhole : He.DefD := ⟨("is_whole", none), "is_whole", "is_whole", defArgs sIsWhole, defBody sIsWhole, defScope sIsWhole, [], []⟩
abbrev sIsBetween : Stmt := top 15
def dIsBetween : He.DefD := ⟨("is_between", none), "is_between", "is_between", defArgs sIsBetween, defBody sIsBetween, defScope sIsBetween, [], []⟩
abbrev sCheckNumber : Stmt := top 16
def dCheckNumber : He.DefD := ⟨("check_number", none), "check_number", "check_number", defArgs sCheckNumber, defBody sCheckNumber, defScope sCheckNumber, [], []⟩
abbrev sIsStringOf : Stmt := top 17
def dIsStringOf : He.DefD := ⟨("is_string_of", none), "is_string_of", "is_string_of", defArgs sIsStringOf, defBody sIsStringOf, defScope sIsStringOf, [], []⟩
abbrev sIsLettersAlone : Stmt := top 18
def dIsLettersAlone : He.DefD := ⟨("is_letters_alone", none), "is_letters_alone", "is_letters_alone", defArgs sIsLettersAlone, defBody sIsLettersAlone, defScope sIsLettersAlone, [], []⟩
abbrev sCheckText : Stmt := top 19
def dCheckText : He.DefD := ⟨("check_text", none), "check_text", "check_text", defArgs sCheckText, defBody sCheckText, defScope sCheckText, [], []⟩
abbrev sCheckWord : Stmt := top 20
def dCheckWord : He.DefD := ⟨("check_word", none), "check_word", "check_word", defArgs sCheckWord, defBody sCheckWord, defScope sCheckWord, [], []⟩
abbrev sIsLetters : Stmt := top 21
def dIsLetters : He.DefD := ⟨("is_letters", none), "is_letters", "is_letters", defArgs sIsLetters, defBody sIsLetters, defScope sIsLetters, [], []⟩
abbrev sCheckLetters : Stmt := top 22
def dCheckLetters : He.DefD := ⟨("check_letters", none), "check_letters", "check_letters", defArgs sCheckLetters, defBody sCheckLetters, defScope sCheckLetters, [], []⟩
abbrev sWordsWith : Stmt := top 23
def dWordsWith : He.DefD := ⟨("words_with", none), "words_with", "words_with", defArgs sWordsWith, defBody sWordsWith, defScope sWordsWith, [], []⟩
abbrev sWordsOf : Stmt := top 24
def dWordsOf : He.DefD := ⟨("words_of", none), "words_of", "words_of", defArgs sWordsOf, defBody sWordsOf, defScope sWordsOf, [], []⟩
abbrev sCheckDepth : Stmt := top 26
def dCheckDepth : He.DefD := ⟨("check_depth", none), "check_depth", "check_depth", defArgs sCheckDepth, defBody sCheckDepth, defScope sCheckDepth, [], []⟩
abbrev sRanksAhead : Stmt := top 27
def dRanksAhead : He.DefD := ⟨("ranks_ahead", none), "ranks_ahead", "ranks_ahead", defArgs sRanksAhead, defBody sRanksAhead, defScope sRanksAhead, [], []⟩
abbrev sRanksOf : Stmt := top 28
def dRanksOf : He.DefD := ⟨("ranks_of", none), "ranks_of", "ranks_of", defArgs sRanksOf, defBody sRanksOf, defScope sRanksOf, [], []⟩
abbrev sTakenOnce : Stmt := top 29
def dTakenOnce : He.DefD := ⟨("taken_once", none), "taken_once", "taken_once", defArgs sTakenOnce, defBody sTakenOnce, defScope sTakenOnce, [], []⟩
abbrev sTakenDown : Stmt := top 30
def dTakenDown : He.DefD := ⟨("taken_down", none), "taken_down", "taken_down", defArgs sTakenDown, defBody sTakenDown, defScope sTakenDown, [], []⟩
abbrev sPutInOrder : Stmt := top 31
def dPutInOrder : He.DefD := ⟨("put_in_order", none), "put_in_order", "put_in_order", defArgs sPutInOrder, defBody sPutInOrder, defScope sPutInOrder, [], []⟩
abbrev sWayDown : Stmt := top 32
def dWayDown : He.DefD := ⟨("way_down", none), "way_down", "way_down", defArgs sWayDown, defBody sWayDown, defScope sWayDown, [], []⟩
abbrev sLeastFormOf : Stmt := top 33
def dLeastFormOf : He.DefD := ⟨("least_form_of", none), "least_form_of", "least_form_of", defArgs sLeastFormOf, defBody sLeastFormOf, defScope sLeastFormOf, [], []⟩
abbrev sLeastForm : Stmt := top 34
def dLeastForm : He.DefD := ⟨("least_form", none), "least_form", "least_form", defArgs sLeastForm, defBody sLeastForm, defScope sLeastForm, [], []⟩
abbrev sPlacesAhead : Stmt := top 37
def dPlacesAhead : He.DefD := ⟨("places_ahead", none), "places_ahead", "places_ahead", defArgs sPlacesAhead, defBody sPlacesAhead, defScope sPlacesAhead, [], []⟩
abbrev sHowManyReads : Stmt := top 38
def dHowManyReads : He.DefD := ⟨("how_many_reads", none), "how_many_reads", "how_many_reads", defArgs sHowManyReads, defBody sHowManyReads, defScope sHowManyReads, [], []⟩
abbrev sReads : Stmt := top 39
def dReads : He.DefD := ⟨("reads", none), "reads", "reads", defArgs sReads, defBody sReads, defScope sReads, [], []⟩
abbrev sReadAlike : Stmt := top 40
def dReadAlike : He.DefD := ⟨("read_alike", none), "read_alike", "read_alike", defArgs sReadAlike, defBody sReadAlike, defScope sReadAlike, [], []⟩
abbrev sSteadyFrom : Stmt := top 41
def dSteadyFrom : He.DefD := ⟨("steady_from", none), "steady_from", "steady_from", defArgs sSteadyFrom, defBody sSteadyFrom, defScope sSteadyFrom, [], []⟩
abbrev sBinomial : Stmt := top 43
def dBinomial : He.DefD := ⟨("binomial", none), "binomial", "binomial", defArgs sBinomial, defBody sBinomial, defScope sBinomial, [], []⟩
abbrev sKeptInit : Stmt := inClass (top 48) 0
def dKeptInit : He.DefD := ⟨("Kept", some "__init__"), "__init__", "Kept.__init__", defArgs sKeptInit, defBody sKeptInit, defScope sKeptInit, [], []⟩
abbrev sKeptPieces : Stmt := inClass (top 48) 1
def dKeptPieces : He.DefD := ⟨("Kept", some "pieces"), "pieces", "Kept.pieces", defArgs sKeptPieces, defBody sKeptPieces, defScope sKeptPieces, [], []⟩
abbrev sKeptLength : Stmt := inClass (top 48) 2
def dKeptLength : He.DefD := ⟨("Kept", some "length"), "length", "Kept.length", defArgs sKeptLength, defBody sKeptLength, defScope sKeptLength, [], []⟩
abbrev sKeptTuplesIn : Stmt := inClass (top 48) 3
def dKeptTuplesIn : He.DefD := ⟨("Kept", some "tuples_in"), "tuples_in", "Kept.tuples_in", defArgs sKeptTuplesIn, defBody sKeptTuplesIn, defScope sKeptTuplesIn, [], []⟩
abbrev sKeptCountedAhead : Stmt := inClass (top 48) 4
def dKeptCountedAhead : He.DefD := ⟨("Kept", some "counted_ahead"), "counted_ahead", "Kept.counted_ahead", defArgs sKeptCountedAhead, defBody sKeptCountedAhead, defScope sKeptCountedAhead, [], []⟩
abbrev sKeptKeepCounted : Stmt := inClass (top 48) 5
def dKeptKeepCounted : He.DefD := ⟨("Kept", some "keep_counted"), "keep_counted", "Kept.keep_counted", defArgs sKeptKeepCounted, defBody sKeptKeepCounted, defScope sKeptKeepCounted, [], []⟩
abbrev sIsPiece : Stmt := top 49
def dIsPiece : He.DefD := ⟨("is_piece", none), "is_piece", "is_piece", defArgs sIsPiece, defBody sIsPiece, defScope sIsPiece, [], []⟩
abbrev sLengthOf : Stmt := top 50
def dLengthOf : He.DefD := ⟨("length_of", none), "length_of", "length_of", defArgs sLengthOf, defBody sLengthOf, defScope sLengthOf, [], []⟩
abbrev sCheckKept : Stmt := top 51
def dCheckKept : He.DefD := ⟨("check_kept", none), "check_kept", "check_kept", defArgs sCheckKept, defBody sCheckKept, defScope sCheckKept, [], []⟩
abbrev sUnitOf : Stmt := top 52
def dUnitOf : He.DefD := ⟨("unit_of", none), "unit_of", "unit_of", defArgs sUnitOf, defBody sUnitOf, defScope sUnitOf, [], []⟩
abbrev sRowBehindText : Stmt := top 53
def dRowBehindText : He.DefD := ⟨("row_behind_text", none), "row_behind_text", "row_behind_text", defArgs sRowBehindText, defBody sRowBehindText, defScope sRowBehindText, [], []⟩
abbrev sRowsByCopies : Stmt := top 54
def dRowsByCopies : He.DefD := ⟨("rows_by_copies", none), "rows_by_copies", "rows_by_copies", defArgs sRowsByCopies, defBody sRowsByCopies, defScope sRowsByCopies, [], []⟩
abbrev sRowBehindCopies : Stmt := top 55
def dRowBehindCopies : He.DefD := ⟨("row_behind_copies", none), "row_behind_copies", "row_behind_copies", defArgs sRowBehindCopies, defBody sRowBehindCopies, defScope sRowBehindCopies, [], []⟩
abbrev sRowBehind : Stmt := top 56
def dRowBehind : He.DefD := ⟨("row_behind", none), "row_behind", "row_behind", defArgs sRowBehind, defBody sRowBehind, defScope sRowBehind, [], []⟩
abbrev sPieceCounts : Stmt := top 57
def dPieceCounts : He.DefD := ⟨("piece_counts", none), "piece_counts", "piece_counts", defArgs sPieceCounts, defBody sPieceCounts, defScope sPieceCounts, [], []⟩
abbrev sCountIn : Stmt := top 58
def dCountIn : He.DefD := ⟨("count_in", none), "count_in", "count_in", defArgs sCountIn, defBody sCountIn, defScope sCountIn, [], []⟩
abbrev sKeptCount : Stmt := top 59
def dKeptCount : He.DefD := ⟨("kept_count", none), "kept_count", "kept_count", defArgs sKeptCount, defBody sKeptCount, defScope sKeptCount, [], []⟩
abbrev sWordsCounted : Stmt := top 60
def dWordsCounted : He.DefD := ⟨("words_counted", none), "words_counted", "words_counted", defArgs sWordsCounted, defBody sWordsCounted, defScope sWordsCounted, [], []⟩
abbrev sJoinedCounts : Stmt := top 61
def dJoinedCounts : He.DefD := ⟨("joined_counts", none), "joined_counts", "joined_counts", defArgs sJoinedCounts, defBody sJoinedCounts, defScope sJoinedCounts, [], []⟩
abbrev sAllCounts : Stmt := top 62
def dAllCounts : He.DefD := ⟨("all_counts", none), "all_counts", "all_counts", defArgs sAllCounts, defBody sAllCounts, defScope sAllCounts, [], []⟩
abbrev sKeptCounts : Stmt := top 63
def dKeptCounts : He.DefD := ⟨("kept_counts", none), "kept_counts", "kept_counts", defArgs sKeptCounts, defBody sKeptCounts, defScope sKeptCounts, [], []⟩
abbrev sLawCell : Stmt := top 65
def dLawCell : He.DefD := ⟨("_law_cell", none), "_law_cell", "_law_cell", defArgs sLawCell, defBody sLawCell, defScope sLawCell, [], []⟩
abbrev sLawHash : Stmt := top 66
def dLawHash : He.DefD := ⟨("_law_hash", none), "_law_hash", "_law_hash", defArgs sLawHash, defBody sLawHash, defScope sLawHash, [], []⟩
abbrev sLawGenerator : Stmt := top 67
def dLawGenerator : He.DefD := ⟨("_law_generator", none), "_law_generator", "_law_generator", defArgs sLawGenerator, defBody sLawGenerator, defScope sLawGenerator, [], []⟩
abbrev sLawRandom : Stmt := top 68
def dLawRandom : He.DefD := ⟨("_law_random", none), "_law_random", "_law_random", defArgs sLawRandom, defBody sLawRandom, defScope sLawRandom, [], []⟩
abbrev sLawText : Stmt := top 69
def dLawText : He.DefD := ⟨("_law_text", none), "_law_text", "_law_text", defArgs sLawText, defBody sLawText, defScope sLawText, [], []⟩
abbrev sLawCount : Stmt := top 70
def dLawCount : He.DefD := ⟨("_law_count", none), "_law_count", "_law_count", defArgs sLawCount, defBody sLawCount, defScope sLawCount, [], []⟩
abbrev sLawTimes : Stmt := top 71
def dLawTimes : He.DefD := ⟨("_law_times", none), "_law_times", "_law_times", defArgs sLawTimes, defBody sLawTimes, defScope sLawTimes, [], []⟩
abbrev sLawPieces : Stmt := top 72
def dLawPieces : He.DefD := ⟨("_law_pieces", none), "_law_pieces", "_law_pieces", defArgs sLawPieces, defBody sLawPieces, defScope sLawPieces, [], []⟩
abbrev sLawCut : Stmt := top 73
def dLawCut : He.DefD := ⟨("_law_cut", none), "_law_cut", "_law_cut", defArgs sLawCut, defBody sLawCut, defScope sLawCut, [], []⟩
abbrev sLawWords : Stmt := top 74
def dLawWords : He.DefD := ⟨("_law_words", none), "_law_words", "_law_words", defArgs sLawWords, defBody sLawWords, defScope sLawWords, [], []⟩
abbrev sLawKeptRight : Stmt := top 75
def dLawKeptRight : He.DefD := ⟨("_law_kept_right", none), "_law_kept_right", "_law_kept_right", defArgs sLawKeptRight, defBody sLawKeptRight, defScope sLawKeptRight, [], []⟩
abbrev sLawFormsRight : Stmt := top 76
def dLawFormsRight : He.DefD := ⟨("_law_forms_right", none), "_law_forms_right", "_law_forms_right", defArgs sLawFormsRight, defBody sLawFormsRight, defScope sLawFormsRight, [], []⟩
abbrev sLawHad : Stmt := top 77
def dLawHad : He.DefD := ⟨("_law_had", none), "_law_had", "_law_had", defArgs sLawHad, defBody sLawHad, defScope sLawHad, [], []⟩
abbrev sLawSteadyRight : Stmt := top 78
def dLawSteadyRight : He.DefD := ⟨("_law_steady_right", none), "_law_steady_right", "_law_steady_right", defArgs sLawSteadyRight, defBody sLawSteadyRight, defScope sLawSteadyRight, [], []⟩
abbrev sLaw : Stmt := top 79
def dLaw : He.DefD := ⟨("law", none), "law", "law", defArgs sLaw, defBody sLaw, defScope sLaw, [], []⟩
def fn0 : List He.DefD := [dIsWhole, dIsBetween, dCheckNumber, dIsStringOf, dIsLettersAlone, dCheckText, dCheckWord, dIsLetters, dCheckLetters, dWordsWith, dWordsOf, dCheckDepth, dRanksAhead, dRanksOf, dTakenOnce, dTakenDown, dPutInOrder, dWayDown, dLeastFormOf, dLeastForm, dPlacesAhead, dHowManyReads, dReads, dReadAlike, dSteadyFrom, dBinomial, dKeptInit, dKeptPieces, dKeptLength, dKeptTuplesIn]
def fn1 : List He.DefD := [dKeptCountedAhead, dKeptKeepCounted, dIsPiece, dLengthOf, dCheckKept, dUnitOf, dRowBehindText, dRowsByCopies, dRowBehindCopies, dRowBehind, dPieceCounts, dCountIn, dKeptCount, dWordsCounted, dJoinedCounts, dAllCounts, dKeptCounts, dLawCell, dLawHash, dLawGenerator, dLawRandom, dLawText, dLawCount, dLawTimes, dLawPieces, dLawCut, dLawWords, dLawKeptRight, dLawFormsRight, dLawHad]
def fn2 : List He.DefD := [dLawSteadyRight, dLaw]
def fn : List He.DefD := fn0 ++ fn1 ++ fn2
def names0 : List PySem.Str := ["_wall", "SkipError", "InvalidNumber", "InvalidText", "InvalidWord", "InvalidLetters", "InvalidList", "InvalidKept", "TooLong", "TooMany", "LETTERS", "MOST_LETTERS", "is_whole", "is_between", "check_number", "is_string_of", "is_letters_alone", "check_text", "check_word", "is_letters", "check_letters", "words_with", "words_of", "check_depth", "ranks_ahead", "ranks_of", "taken_once", "taken_down", "put_in_order", "way_down"]
def names1 : List PySem.Str := ["least_form_of", "least_form", "MOST_READS", "places_ahead", "how_many_reads", "reads", "read_alike", "steady_from", "binomial", "MOST_TUPLES", "MOST_LENGTH", "MOST_DEPTH", "Kept", "is_piece", "length_of", "check_kept", "unit_of", "row_behind_text", "rows_by_copies", "row_behind_copies", "row_behind", "piece_counts", "count_in", "kept_count", "words_counted", "joined_counts", "all_counts", "kept_counts", "_law_cell", "_law_hash"]
def names2 : List PySem.Str := ["_law_generator", "_law_random", "_law_text", "_law_count", "_law_times", "_law_pieces", "_law_cut", "_law_words", "_law_kept_right", "_law_forms_right", "_law_had", "_law_steady_right"]
def names : List PySem.Str := names0 ++ names1 ++ names2
def fa0 : List He.Fa := [.glo "is_whole", .glo "is_between", .glo "check_number", .glo "is_string_of", .glo "is_letters_alone", .glo "check_text", .glo "check_word", .glo "is_letters", .glo "check_letters", .glo "words_with", .glo "words_of", .glo "check_depth", .glo "ranks_ahead", .glo "ranks_of", .glo "taken_once", .glo "taken_down", .glo "put_in_order", .glo "way_down", .glo "least_form_of", .glo "least_form", .glo "places_ahead", .glo "how_many_reads", .glo "reads", .glo "read_alike", .glo "steady_from", .glo "binomial", .glo "is_piece", .glo "length_of", .glo "check_kept", .glo "unit_of"]
def fa1 : List He.Fa := [.glo "row_behind_text", .glo "rows_by_copies", .glo "row_behind_copies", .glo "row_behind", .glo "piece_counts", .glo "count_in", .glo "kept_count", .glo "words_counted", .glo "joined_counts", .glo "all_counts", .glo "kept_counts", .glo "_law_cell", .glo "_law_hash", .glo "_law_generator", .glo "_law_random", .glo "_law_text", .glo "_law_count", .glo "_law_times", .glo "_law_pieces", .glo "_law_cut", .glo "_law_words", .glo "_law_kept_right", .glo "_law_forms_right", .glo "_law_had", .glo "_law_steady_right", .glo "law", .glo "Kept", .free "len", .free "range", .free "zip"]
def fa2 : List He.Fa := [.free "min", .free "max", .free "sum", .free "sorted", .free "list", .free "int", .free "isinstance", .free "bool", .free "str", .free "tuple", .free "reversed", .int "MOST_LETTERS" 4, .int "MOST_READS" 2000, .int "MOST_TUPLES" 60, .int "MOST_LENGTH" (10 ^ 60), .int "MOST_DEPTH" 4, .str "LETTERS" "abcdefghijklmnopqrstuvwxyz", .cls "Kept", .mkr "Kept", .noat "Kept" "_pieces", .noat "Kept" "_size", .noat "Kept" "_length", .noat "Kept" "_counted", .meth "Kept" "pieces", .meth "Kept" "length", .meth "Kept" "tuples_in", .meth "Kept" "counted_ahead", .meth "Kept" "keep_counted"]
def fa : List He.Fa := fa0 ++ fa1 ++ fa2

/-- isinstance of a text and of a kept text -/
def ex (K : PySem.W.Frag) : Bool := decide (PySem.W.kitOne K (.type "str") (.ref (He.ga K "Kept")) = some false) && decide (PySem.W.kitOne K (.ref (He.ga K "Kept")) (.ref (He.ga K "Kept")) = some true) &&
  (decide (PySem.W.findIn K (.ref (He.ga K "Kept")) "__class__" = some (some (.builtin "object.__class__"))) && (decide (PySem.W.specialIn K (.builtin "object.__class__") "__get__" = some (some (.builtin "getset_descriptor.__get__"))) &&
  (decide (PySem.W.takesIn K (.builtin "object.__class__") = some true) && decide (PySem.W.mroIn K (He.ga K "Kept") (.type "object") = some true))))
/-- what the top has left -/
structure Ctx (K : PySem.W.Frag) (mg : Str → Option Value) : Prop where
  h : ∃ h : Heap, K.In h ∧ h.Ns mainGlobals mg
  says : He.SaysD fa fn K
  more : ex K = true
section
variable {P : Program} {w : World} {K : PySem.W.Frag} {mg : Str → Option Value} {base : Heap}
theorem Ctx.glo (C : Ctx K mg) (i : Nat) {x : Str} (h : fa[i]? = some (.glo x) := by rfl) : mg x = some (.ref (He.ga K x)) := let ⟨_, X, G⟩ := C.h; He.glo_ok X G (C.says.fact i h)
theorem Ctx.free (C : Ctx K mg) (i : Nat) {x : Str} (h : fa[i]? = some (.free x) := by rfl) : mg x = none := let ⟨_, X, G⟩ := C.h; He.free_ok X G (C.says.fact i h)
theorem Ctx.int (C : Ctx K mg) (i : Nat) {x : Str} {n : Int} (h : fa[i]? = some (.int x n) := by rfl) : ∃ t, mg x = some (.int n t) := let ⟨_, X, G⟩ := C.h; He.int_ok X G (C.says.fact i h)
theorem Ctx.str (C : Ctx K mg) (i : Nat) {x z : Str} (h : fa[i]? = some (.str x z) := by rfl) : ∃ t, mg x = some (.str z t) := let ⟨_, X, G⟩ := C.h; He.str_ok X G (C.says.fact i h)
theorem Ctx.isText (C : Ctx K mg) : PySem.W.kitOne K (.type "str") (.ref (He.ga K "Kept")) = some false := of_decide_eq_true (He.ba (He.ba C.more).1).1
theorem Ctx.tyKept (C : Ctx K mg) (hc : Cls K (He.ga K "Kept")) {H : Hp} {a dx : Addr} {fs : List (Str × V)} (e : H a = some (.ins (He.ga K "Kept") dx fs)) : TyX K H (.ref a) (.ref (He.ga K "Kept")) := by
  obtain ⟨h1, h2⟩ := He.ba (He.ba C.more).2
  obtain ⟨h2, h3⟩ := He.ba h2
  obtain ⟨h3, h4⟩ := He.ba h3
  exact .base (.ins e hc (of_decide_eq_true h1) (of_decide_eq_true h2) (of_decide_eq_true h3) (of_decide_eq_true h4))
theorem Ctx.isKept (C : Ctx K mg) : PySem.W.kitOne K (.ref (He.ga K "Kept")) (.ref (He.ga K "Kept")) = some true := of_decide_eq_true (He.ba (He.ba C.more).1).2
/-- a def of the text, ready to be called -/
structure Dfn (K : PySem.W.Frag) (mg : Str → Option Value) (x : Str) (st : Stmt) : Prop where
  fn : ∃ fd, FunD K x x (defArgs st) (defBody st) (defScope st) [] [] (He.ga K x) fd
  mgf : mg x = some (.ref (He.ga K x))
theorem Dfn.cal {x : Str} {st : Stmt} {N ps : List Str} {k : Nat} {sp : Sp} (D : Dfn K mg x st) (S : FnScope N ps (defScope st))
    (hb : ∀ (kV doc pm : Value) (an : Option Addr) (cdv ct : Value) (us : List Value), us.length = ps.length → bindArgs (PySem.W.fnOf x x (defArgs st) (defBody st) (defScope st) .none kV doc pm an cdv ct) ⟨us, []⟩ = pure (ps.zip us))
    (len : ∀ vs H Q E, sp vs H Q E → vs.length = ps.length)
    (hbody : ∀ (cdv : Value) (A : Around) (outer : List Env) (s : Shared) (H : Hp) (vs : List V) (Q : VK) (E : XK), Room k (A.deeper (envOfC x (defScope st) s.heap.objs.size (He.ga K x) cdv)) → sp vs H Q E →
      ∃ t, PSs (cxOf C8.CX0 P w K mg base N x (defScope st) (He.ga K x) cdv A outer s H E).nox (defBody st) t ∧ t { nx := fun _ H' => Q .non H', rt := Q } (start N vs) H) : C8.Cal P w K mg base (k + 1) x sp [] := by
  obtain ⟨fd, F⟩ := D.fn
  refine ⟨He.ga K x, fd, ps, [], F.ok S len fun cdv A outer s H vs Q E hr h => ?_, D.mgf, F.kp, F.bindsN hb, .nil⟩
  obtain ⟨t, h1, h2⟩ := hbody cdv A outer s H vs Q E hr h
  exact ⟨t, h1.nox, h2⟩
/-- a method of Kept -/
structure Mtd (K : PySem.W.Frag) (m qual : Str) (st : Stmt) : Prop where
  fn : ∃ fd, FunD K m qual (defArgs st) (defBody st) (defScope st) [] [] (He.ma K (He.ga K "Kept") m) fd
  cl : Cls K (He.ga K "Kept")
theorem Mtd.met {m qual : Str} {st : Stmt} {N ps : List Str} {k : Nat} {sp : Sp} (D : Mtd K m qual st) (me : Meth K (He.ga K "Kept") m (He.ma K (He.ga K "Kept") m)) (S : FnScope N ps (defScope st))
    (hb : ∀ (kV doc pm : Value) (an : Option Addr) (cdv ct : Value) (us : List Value), us.length = ps.length → bindArgs (PySem.W.fnOf m qual (defArgs st) (defBody st) (defScope st) .none kV doc pm an cdv ct) ⟨us, []⟩ = pure (ps.zip us))
    (len : ∀ vs H Q E, sp vs H Q E → vs.length = ps.length)
    (hbody : ∀ (cdv : Value) (A : Around) (outer : List Env) (s : Shared) (H : Hp) (vs : List V) (Q : VK) (E : XK), Room k (A.deeper (envOfC qual (defScope st) s.heap.objs.size (He.ma K (He.ga K "Kept") m) cdv)) → sp vs H Q E →
      ∃ t, PSs (cxOf C8.CX0 P w K mg base N qual (defScope st) (He.ma K (He.ga K "Kept") m) cdv A outer s H E).nox (defBody st) t ∧ t { nx := fun _ H' => Q .non H', rt := Q } (start N vs) H) : C8.Met P w K mg base (k + 1) (He.ga K "Kept") m sp [] := by
  obtain ⟨fd, F⟩ := D.fn
  refine ⟨He.ma K (He.ga K "Kept") m, fd, ps, [], D.cl, me, F.ok S len fun cdv A outer s H vs Q E hr h => ?_, F.bindsN hb, .nil⟩
  obtain ⟨t, h1, h2⟩ := hbody cdv A outer s H vs Q E hr h
  exact ⟨t, h1.nox, h2⟩
theorem Mtd.mak {qual : Str} {st : Stmt} {N ps : List Str} {k : Nat} {sp : Sp} (D : Mtd K "__init__" qual st) (M : Mk K (He.ga K "Kept") (He.ma K (He.ga K "Kept") "__init__")) (hm : mg "Kept" = some (.ref (He.ga K "Kept"))) (S : FnScope N ps (defScope st))
    (hb : ∀ (kV doc pm : Value) (an : Option Addr) (cdv ct : Value) (us : List Value), us.length = ps.length → bindArgs (PySem.W.fnOf "__init__" qual (defArgs st) (defBody st) (defScope st) .none kV doc pm an cdv ct) ⟨us, []⟩ = pure (ps.zip us))
    (len : ∀ vs H Q E, sp vs H Q E → vs.length = ps.length)
    (hbody : ∀ (cdv : Value) (A : Around) (outer : List Env) (s : Shared) (H : Hp) (vs : List V) (Q : VK) (E : XK), Room k (A.deeper (envOfC qual (defScope st) s.heap.objs.size (He.ma K (He.ga K "Kept") "__init__") cdv)) → sp vs H Q E →
      ∃ t, PSs (cxOf C8.CX0 P w K mg base N qual (defScope st) (He.ma K (He.ga K "Kept") "__init__") cdv A outer s H E).nox (defBody st) t ∧ t { nx := fun _ H' => Q .non H', rt := Q } (start N vs) H) : C8.Mak P w K mg base (k + 1) "Kept" (He.ga K "Kept") (sp : Sp) [] := by
  obtain ⟨fd, F⟩ := D.fn
  refine ⟨He.ma K (He.ga K "Kept") "__init__", fd, ps, [], M, F.ok S len fun cdv A outer s H vs Q E hr h => ?_, hm, F.bindsN hb, .nil⟩
  obtain ⟨t, h1, h2⟩ := hbody cdv A outer s H vs Q E hr h
  exact ⟨t, h1.nox, h2⟩
theorem fIsWhole (C : Ctx K mg) : Dfn K mg "is_whole" sIsWhole := ⟨C.says.def_ 0 (d := dIsWhole), C.glo 0⟩
theorem fIsBetween (C : Ctx K mg) : Dfn K mg "is_between" sIsBetween := ⟨C.says.def_ 1 (d := dIsBetween), C.glo 1⟩
theorem fCheckNumber (C : Ctx K mg) : Dfn K mg "check_number" sCheckNumber := ⟨C.says.def_ 2 (d := dCheckNumber), C.glo 2⟩
theorem fIsStringOf (C : Ctx K mg) : Dfn K mg "is_string_of" sIsStringOf := ⟨C.says.def_ 3 (d := dIsStringOf), C.glo 3⟩
theorem fIsLettersAlone (C : Ctx K mg) : Dfn K mg "is_letters_alone" sIsLettersAlone := ⟨C.says.def_ 4 (d := dIsLettersAlone), C.glo 4⟩
theorem fCheckText (C : Ctx K mg) : Dfn K mg "check_text" sCheckText := ⟨C.says.def_ 5 (d := dCheckText), C.glo 5⟩
theorem fCheckWord (C : Ctx K mg) : Dfn K mg "check_word" sCheckWord := ⟨C.says.def_ 6 (d := dCheckWord), C.glo 6⟩
theorem fIsLetters (C : Ctx K mg) : Dfn K mg "is_letters" sIsLetters := ⟨C.says.def_ 7 (d := dIsLetters), C.glo 7⟩
theorem fCheckLetters (C : Ctx K mg) : Dfn K mg "check_letters" sCheckLetters := ⟨C.says.def_ 8 (d := dCheckLetters), C.glo 8⟩
theorem fWordsWith (C : Ctx K mg) : Dfn K mg "words_with" sWordsWith := ⟨C.says.def_ 9 (d := dWordsWith), C.glo 9⟩
theorem fWordsOf (C : Ctx K mg) : Dfn K mg "words_of" sWordsOf := ⟨C.says.def_ 10 (d := dWordsOf), C.glo 10⟩
theorem fCheckDepth (C : Ctx K mg) : Dfn K mg "check_depth" sCheckDepth := ⟨C.says.def_ 11 (d := dCheckDepth), C.glo 11⟩
theorem fRanksAhead (C : Ctx K mg) : Dfn K mg "ranks_ahead" sRanksAhead := ⟨C.says.def_ 12 (d := dRanksAhead), C.glo 12⟩
theorem fRanksOf (C : Ctx K mg) : Dfn K mg "ranks_of" sRanksOf := ⟨C.says.def_ 13 (d := dRanksOf), C.glo 13⟩
theorem fTakenOnce (C : Ctx K mg) : Dfn K mg "taken_once" sTakenOnce := ⟨C.says.def_ 14 (d := dTakenOnce), C.glo 14⟩
theorem fTakenDown (C : Ctx K mg) : Dfn K mg "taken_down" sTakenDown := ⟨C.says.def_ 15 (d := dTakenDown), C.glo 15⟩
theorem fPutInOrder (C : Ctx K mg) : Dfn K mg "put_in_order" sPutInOrder := ⟨C.says.def_ 16 (d := dPutInOrder), C.glo 16⟩
theorem fWayDown (C : Ctx K mg) : Dfn K mg "way_down" sWayDown := ⟨C.says.def_ 17 (d := dWayDown), C.glo 17⟩
theorem fLeastFormOf (C : Ctx K mg) : Dfn K mg "least_form_of" sLeastFormOf := ⟨C.says.def_ 18 (d := dLeastFormOf), C.glo 18⟩
theorem fLeastForm (C : Ctx K mg) : Dfn K mg "least_form" sLeastForm := ⟨C.says.def_ 19 (d := dLeastForm), C.glo 19⟩
theorem fPlacesAhead (C : Ctx K mg) : Dfn K mg "places_ahead" sPlacesAhead := ⟨C.says.def_ 20 (d := dPlacesAhead), C.glo 20⟩
theorem fHowManyReads (C : Ctx K mg) : Dfn K mg "how_many_reads" sHowManyReads := ⟨C.says.def_ 21 (d := dHowManyReads), C.glo 21⟩
theorem fReads (C : Ctx K mg) : Dfn K mg "reads" sReads := ⟨C.says.def_ 22 (d := dReads), C.glo 22⟩
theorem fReadAlike (C : Ctx K mg) : Dfn K mg "read_alike" sReadAlike := ⟨C.says.def_ 23 (d := dReadAlike), C.glo 23⟩
theorem fSteadyFrom (C : Ctx K mg) : Dfn K mg "steady_from" sSteadyFrom := ⟨C.says.def_ 24 (d := dSteadyFrom), C.glo 24⟩
theorem fBinomial (C : Ctx K mg) : Dfn K mg "binomial" sBinomial := ⟨C.says.def_ 25 (d := dBinomial), C.glo 25⟩
theorem fKeptInit (C : Ctx K mg) : Mtd K "__init__" "Kept.__init__" sKeptInit := ⟨C.says.def_ 26 (d := dKeptInit), He.cls_ok (C.says.fact 77 (f := .cls "Kept"))⟩
theorem fKeptPieces (C : Ctx K mg) : Mtd K "pieces" "Kept.pieces" sKeptPieces := ⟨C.says.def_ 27 (d := dKeptPieces), He.cls_ok (C.says.fact 77 (f := .cls "Kept"))⟩
theorem fKeptLength (C : Ctx K mg) : Mtd K "length" "Kept.length" sKeptLength := ⟨C.says.def_ 28 (d := dKeptLength), He.cls_ok (C.says.fact 77 (f := .cls "Kept"))⟩
theorem fKeptTuplesIn (C : Ctx K mg) : Mtd K "tuples_in" "Kept.tuples_in" sKeptTuplesIn := ⟨C.says.def_ 29 (d := dKeptTuplesIn), He.cls_ok (C.says.fact 77 (f := .cls "Kept"))⟩
theorem fKeptCountedAhead (C : Ctx K mg) : Mtd K "counted_ahead" "Kept.counted_ahead" sKeptCountedAhead := ⟨C.says.def_ 30 (d := dKeptCountedAhead), He.cls_ok (C.says.fact 77 (f := .cls "Kept"))⟩
theorem fKeptKeepCounted (C : Ctx K mg) : Mtd K "keep_counted" "Kept.keep_counted" sKeptKeepCounted := ⟨C.says.def_ 31 (d := dKeptKeepCounted), He.cls_ok (C.says.fact 77 (f := .cls "Kept"))⟩
theorem fIsPiece (C : Ctx K mg) : Dfn K mg "is_piece" sIsPiece := ⟨C.says.def_ 32 (d := dIsPiece), C.glo 26⟩
theorem fLengthOf (C : Ctx K mg) : Dfn K mg "length_of" sLengthOf := ⟨C.says.def_ 33 (d := dLengthOf), C.glo 27⟩
theorem fCheckKept (C : Ctx K mg) : Dfn K mg "check_kept" sCheckKept := ⟨C.says.def_ 34 (d := dCheckKept), C.glo 28⟩
theorem fUnitOf (C : Ctx K mg) : Dfn K mg "unit_of" sUnitOf := ⟨C.says.def_ 35 (d := dUnitOf), C.glo 29⟩
theorem fRowBehindText (C : Ctx K mg) : Dfn K mg "row_behind_text" sRowBehindText := ⟨C.says.def_ 36 (d := dRowBehindText), C.glo 30⟩
theorem fRowsByCopies (C : Ctx K mg) : Dfn K mg "rows_by_copies" sRowsByCopies := ⟨C.says.def_ 37 (d := dRowsByCopies), C.glo 31⟩
theorem fRowBehindCopies (C : Ctx K mg) : Dfn K mg "row_behind_copies" sRowBehindCopies := ⟨C.says.def_ 38 (d := dRowBehindCopies), C.glo 32⟩
theorem fRowBehind (C : Ctx K mg) : Dfn K mg "row_behind" sRowBehind := ⟨C.says.def_ 39 (d := dRowBehind), C.glo 33⟩
theorem fPieceCounts (C : Ctx K mg) : Dfn K mg "piece_counts" sPieceCounts := ⟨C.says.def_ 40 (d := dPieceCounts), C.glo 34⟩
theorem fCountIn (C : Ctx K mg) : Dfn K mg "count_in" sCountIn := ⟨C.says.def_ 41 (d := dCountIn), C.glo 35⟩
theorem fKeptCount (C : Ctx K mg) : Dfn K mg "kept_count" sKeptCount := ⟨C.says.def_ 42 (d := dKeptCount), C.glo 36⟩
theorem fWordsCounted (C : Ctx K mg) : Dfn K mg "words_counted" sWordsCounted := ⟨C.says.def_ 43 (d := dWordsCounted), C.glo 37⟩
theorem fJoinedCounts (C : Ctx K mg) : Dfn K mg "joined_counts" sJoinedCounts := ⟨C.says.def_ 44 (d := dJoinedCounts), C.glo 38⟩
theorem fAllCounts (C : Ctx K mg) : Dfn K mg "all_counts" sAllCounts := ⟨C.says.def_ 45 (d := dAllCounts), C.glo 39⟩
theorem fKeptCounts (C : Ctx K mg) : Dfn K mg "kept_counts" sKeptCounts := ⟨C.says.def_ 46 (d := dKeptCounts), C.glo 40⟩
theorem fLawCell (C : Ctx K mg) : Dfn K mg "_law_cell" sLawCell := ⟨C.says.def_ 47 (d := dLawCell), C.glo 41⟩
theorem fLawHash (C : Ctx K mg) : Dfn K mg "_law_hash" sLawHash := ⟨C.says.def_ 48 (d := dLawHash), C.glo 42⟩
theorem fLawGenerator (C : Ctx K mg) : Dfn K mg "_law_generator" sLawGenerator := ⟨C.says.def_ 49 (d := dLawGenerator), C.glo 43⟩
theorem fLawRandom (C : Ctx K mg) : Dfn K mg "_law_random" sLawRandom := ⟨C.says.def_ 50 (d := dLawRandom), C.glo 44⟩
theorem fLawText (C : Ctx K mg) : Dfn K mg "_law_text" sLawText := ⟨C.says.def_ 51 (d := dLawText), C.glo 45⟩
theorem fLawCount (C : Ctx K mg) : Dfn K mg "_law_count" sLawCount := ⟨C.says.def_ 52 (d := dLawCount), C.glo 46⟩
theorem fLawTimes (C : Ctx K mg) : Dfn K mg "_law_times" sLawTimes := ⟨C.says.def_ 53 (d := dLawTimes), C.glo 47⟩
theorem fLawPieces (C : Ctx K mg) : Dfn K mg "_law_pieces" sLawPieces := ⟨C.says.def_ 54 (d := dLawPieces), C.glo 48⟩
theorem fLawCut (C : Ctx K mg) : Dfn K mg "_law_cut" sLawCut := ⟨C.says.def_ 55 (d := dLawCut), C.glo 49⟩
theorem fLawWords (C : Ctx K mg) : Dfn K mg "_law_words" sLawWords := ⟨C.says.def_ 56 (d := dLawWords), C.glo 50⟩
theorem fLawKeptRight (C : Ctx K mg) : Dfn K mg "_law_kept_right" sLawKeptRight := ⟨C.says.def_ 57 (d := dLawKeptRight), C.glo 51⟩
theorem fLawFormsRight (C : Ctx K mg) : Dfn K mg "_law_forms_right" sLawFormsRight := ⟨C.says.def_ 58 (d := dLawFormsRight), C.glo 52⟩
theorem fLawHad (C : Ctx K mg) : Dfn K mg "_law_had" sLawHad := ⟨C.says.def_ 59 (d := dLawHad), C.glo 53⟩
theorem fLawSteadyRight (C : Ctx K mg) : Dfn K mg "_law_steady_right" sLawSteadyRight := ⟨C.says.def_ 60 (d := dLawSteadyRight), C.glo 54⟩
theorem fLaw (C : Ctx K mg) : Dfn K mg "law" sLaw := ⟨C.says.def_ 61 (d := dLaw), C.glo 55⟩
theorem gKept (C : Ctx K mg) : mg "Kept" = some (.ref (He.ga K "Kept")) := C.glo 56
theorem clKept (C : Ctx K mg) : Cls K (He.ga K "Kept") := He.cls_ok (C.says.fact 77 (f := .cls "Kept"))
theorem mkKept (C : Ctx K mg) : Mk K (He.ga K "Kept") (He.ma K (He.ga K "Kept") "__init__") := He.mkr_ok (C.says.fact 78 (f := .mkr "Kept"))
theorem na_pieces (C : Ctx K mg) : NoAttr K (He.ga K "Kept") "_pieces" := He.noat_ok (C.says.fact 79 (f := .noat "Kept" "_pieces"))
theorem na_size (C : Ctx K mg) : NoAttr K (He.ga K "Kept") "_size" := He.noat_ok (C.says.fact 80 (f := .noat "Kept" "_size"))
theorem na_length (C : Ctx K mg) : NoAttr K (He.ga K "Kept") "_length" := He.noat_ok (C.says.fact 81 (f := .noat "Kept" "_length"))
theorem na_counted (C : Ctx K mg) : NoAttr K (He.ga K "Kept") "_counted" := He.noat_ok (C.says.fact 82 (f := .noat "Kept" "_counted"))
theorem me_pieces (C : Ctx K mg) : Meth K (He.ga K "Kept") "pieces" (He.ma K (He.ga K "Kept") "pieces") := He.meth_ok (C.says.fact 83 (f := .meth "Kept" "pieces"))
theorem me_length (C : Ctx K mg) : Meth K (He.ga K "Kept") "length" (He.ma K (He.ga K "Kept") "length") := He.meth_ok (C.says.fact 84 (f := .meth "Kept" "length"))
theorem me_tuples_in (C : Ctx K mg) : Meth K (He.ga K "Kept") "tuples_in" (He.ma K (He.ga K "Kept") "tuples_in") := He.meth_ok (C.says.fact 85 (f := .meth "Kept" "tuples_in"))
theorem me_counted_ahead (C : Ctx K mg) : Meth K (He.ga K "Kept") "counted_ahead" (He.ma K (He.ga K "Kept") "counted_ahead") := He.meth_ok (C.says.fact 86 (f := .meth "Kept" "counted_ahead"))
theorem me_keep_counted (C : Ctx K mg) : Meth K (He.ga K "Kept") "keep_counted" (He.ma K (He.ga K "Kept") "keep_counted") := He.meth_ok (C.says.fact 87 (f := .meth "Kept" "keep_counted"))
theorem b_len (C : Ctx K mg) : mg "len" = none := C.free 57
theorem b_range (C : Ctx K mg) : mg "range" = none := C.free 58
theorem b_zip (C : Ctx K mg) : mg "zip" = none := C.free 59
theorem b_min (C : Ctx K mg) : mg "min" = none := C.free 60
theorem b_max (C : Ctx K mg) : mg "max" = none := C.free 61
theorem b_sum (C : Ctx K mg) : mg "sum" = none := C.free 62
theorem b_sorted (C : Ctx K mg) : mg "sorted" = none := C.free 63
theorem b_list (C : Ctx K mg) : mg "list" = none := C.free 64
theorem b_int (C : Ctx K mg) : mg "int" = none := C.free 65
theorem b_isinstance (C : Ctx K mg) : mg "isinstance" = none := C.free 66
theorem b_bool (C : Ctx K mg) : mg "bool" = none := C.free 67
theorem b_str (C : Ctx K mg) : mg "str" = none := C.free 68
theorem b_tuple (C : Ctx K mg) : mg "tuple" = none := C.free 69
theorem b_reversed (C : Ctx K mg) : mg "reversed" = none := C.free 70
theorem i_MOST_LETTERS (C : Ctx K mg) : ∃ t, mg "MOST_LETTERS" = some (.int 4 t) := C.int 71
theorem i_MOST_READS (C : Ctx K mg) : ∃ t, mg "MOST_READS" = some (.int 2000 t) := C.int 72
theorem i_MOST_TUPLES (C : Ctx K mg) : ∃ t, mg "MOST_TUPLES" = some (.int 60 t) := C.int 73
theorem i_MOST_LENGTH (C : Ctx K mg) : ∃ t, mg "MOST_LENGTH" = some (.int (10 ^ 60) t) := C.int 74
theorem i_MOST_DEPTH (C : Ctx K mg) : ∃ t, mg "MOST_DEPTH" = some (.int 4 t) := C.int 75
theorem i_LETTERS (C : Ctx K mg) : ∃ t, mg "LETTERS" = some (.str "abcdefghijklmnopqrstuvwxyz" t) := C.str 76
end
end Sk
end
section
set_option Elab.async false
set_option linter.all false
set_option maxRecDepth 100000
set_option maxHeartbeats 4000000
namespace Sk
open PySem PySem.Spec PyProof.Rows L2 SX C8
/-! heaps -/
theorem sm_new {H : Hp} {p : Addr} (h : H p = none) (o : HO) : Same H (upd H p o) := fun b u q => by
  rw [upd_ne (ne_of_none q h)]
  exact q
/-- all but what stands at g is as it was -/
def But (g : Addr) (H H' : Hp) : Prop := ∀ b o, H b = some o → b ≠ g → H' b = some o
theorem But.refl (g : Addr) (H : Hp) : But g H H := fun _ _ h _ => h
theorem But.trans {g : Addr} {H H1 H2 : Hp} (a : But g H H1) (b : But g H1 H2) : But g H H2 := fun c o h n => b c o (a c o h n) n
theorem But.of {g : Addr} {H H' : Hp} (s : Same H H') : But g H H' := fun b o h _ => s b o h
theorem But.upd {g : Addr} {H H' : Hp} (a : But g H H') (o : HO) : But g H (upd H' g o) := fun b u h n => by
  rw [upd_ne n]
  exact a b u h n
/-- what H0 does not know may change -/
theorem _root_.L2.Same.mut {H H' : Hp} {p : Addr} (e : Same H H') (h : H p = none) (o : HO) : Same H (upd H' p o) := fun a u ha => by
  rw [upd_ne (ne_of_none ha h)]
  exact e a u ha
/-- the promises' two shapes -/
def RV (v : V) (H : Hp) (Q : VK) : Prop := ∀ H', Same H H' → Q v H'
def RL (xs : List V) (H : Hp) (Q : VK) : Prop := ∀ p H', H p = none → Same H H' → H' p = some (.lst xs) → Q (.ref p) H'
theorem bl_t {p : Prop} [Decidable p] (h : p) : V.bl (decide p) = V.bl true := by rw [decide_eq_true h]
theorem bl_f {p : Prop} [Decidable p] (h : ¬ p) : V.bl (decide p) = V.bl false := by rw [decide_eq_false h]
theorem qT {Q : VK} {p : Prop} [Decidable p] {H : Hp} (h : p) (q : Q (.bl true) H) : Q (.bl (decide p)) H := by
  rw [decide_eq_true h]
  exact q
theorem qF {Q : VK} {p : Prop} [Decidable p] {H : Hp} (h : ¬ p) (q : Q (.bl false) H) : Q (.bl (decide p)) H := by
  rw [decide_eq_false h]
  exact q
theorem qNT {Q : VK} {p : Prop} [Decidable p] {H : Hp} (h : ¬ p) (q : Q (.bl true) H) : Q (.bl (!decide p)) H := by
  rw [decide_eq_false h]
  exact q
theorem qNF {Q : VK} {p : Prop} [Decidable p] {H : Hp} (h : p) (q : Q (.bl false) H) : Q (.bl (!decide p)) H := by
  rw [decide_eq_true h]
  exact q
/-! loops -/
/-- anything that walks: Body is what a turn is asked, from the item, the heap and what is to be reached -/
theorem it_go {J : It} {n : Nat} {G : Hp → Prop} {Y : Nat → Hp → V → Hp → Prop} (w : Walk J n G Y) {Body : V → Hp → (Hp → Prop) → Prop} {H0 : Hp} {Qd : Hp → Prop} (Pv : Nat → Hp → Prop) (h0 : Pv 0 H0) (hG : ∀ i H, i ≤ n → Pv i H → G H)
    (hs : ∀ i x H H', i < n → Pv i H → Y i H x H' → Body x H' (Pv (i + 1))) (hd : ∀ H, Pv n H → Qd H) :
    ∃ W : Nat → Nat → Hp → Prop, (∃ m, W 0 m H0) ∧ ∀ i m H, W i m H → (J.stop i H ∧ Qd H) ∨ (J.go i H ∧ ∃ Nx : Hp → Prop, (∀ H', Nx H' → ∃ m', m' < m ∧ W (i + 1) m' H') ∧ ∀ x H', J.yld i H x H' → Body x H' Nx) := by
  refine ⟨fun i m H => m = n - i ∧ i ≤ n ∧ Pv i H, ⟨n, by simp, Nat.zero_le _, h0⟩, ?_⟩
  rintro i m H ⟨rfl, hi, p⟩
  have q := hG i H hi p
  by_cases hlt : i < n
  · exact .inr ⟨w.goes i H hlt q, Pv (i + 1), fun H' p' => ⟨n - (i + 1), by omega, rfl, hlt, p'⟩, fun x H' y => hs i x H H' hlt p (w.yields i H x H' hlt q y)⟩
  · have e : i = n := by omega
    subst e
    exact .inl ⟨w.stops H q, hd H p⟩
/-- a statement's loop -/
theorem for_go {J : It} {n : Nat} {G : Hp → Prop} {Y : Nat → Hp → V → Hp → Prop} (w : Walk J n G Y) {Body : V → L2.St → Hp → (L2.St → Hp → Prop) → Prop} {σ0 : L2.St} {H0 : Hp} {Qd : L2.St → Hp → Prop} (Pv : Nat → L2.St → Hp → Prop) (h0 : Pv 0 σ0 H0) (hG : ∀ i σ H, i ≤ n → Pv i σ H → G H)
    (hs : ∀ i x σ H H', i < n → Pv i σ H → Y i H x H' → Body x σ H' (Pv (i + 1))) (hd : ∀ σ H, Pv n σ H → Qd σ H) :
    ∃ W : Nat → Nat → L2.St → Hp → Prop, (∃ m, W 0 m σ0 H0) ∧ ∀ i m σ H, W i m σ H → (J.stop i H ∧ Qd σ H) ∨ (J.go i H ∧ ∃ N : L2.St → Hp → Prop, (∀ σ' H', N σ' H' → ∃ m', m' < m ∧ W (i + 1) m' σ' H') ∧ ∀ x H', J.yld i H x H' → Body x σ H' N) := by
  refine ⟨fun i m σ H => m = n - i ∧ i ≤ n ∧ Pv i σ H, ⟨n, by simp, Nat.zero_le _, h0⟩, ?_⟩
  rintro i m σ H ⟨rfl, hi, p⟩
  have q := hG i σ H hi p
  by_cases hlt : i < n
  · exact .inr ⟨w.goes i H hlt q, Pv (i + 1), fun σ' H' p' => ⟨n - (i + 1), by omega, rfl, hlt, p'⟩, fun x H' y => hs i x σ H H' hlt p (w.yields i H x H' hlt q y)⟩
  · have e : i = n := by omega
    subst e
    exact .inl ⟨w.stops H q, hd σ H p⟩
/-- name = {k: v for ..} on one line, the name a local -/
theorem ps_setDc {X : Cx} {i : Nat} {y : Str} {py : Pos} {kx vx tg iter : Expr} {ifs : List Expr} {scope : Scope} {own : List (Str × Nat)} {pos spos : Pos} {wi : TI} {g : TG} {tt : TT} {tk te : TE} (hc : X.calm = true) (hN : X.N.Nodup) (hy : X.N[i]? = some y) (hyl : X.env.scope.names.lookup y = some .local)
    (hsw : swapsWith (.DictComp kx vx [⟨tg, iter, ifs, 0⟩] scope pos) (some (.Name y py)) spos.line X.env = pure true) (hi : PI X tg iter wi) (ok : BlkOk X.N X.env.scope scope own)
    (hg : ∀ (s : Shared) (H : Hp) (C : Addr) (cl : List (Str × Addr)) (fp : List Addr), PG (X.blk s H scope (compEnvC scope cl C X.env) fp) tg g) (ht : ∀ (s : Shared) (H : Hp) (C : Addr) (cl : List (Str × Addr)) (fp : List Addr), PTs (X.blk s H scope (compEnvC scope cl C X.env) fp) ifs tt)
    (hk : ∀ (s : Shared) (H : Hp) (C : Addr) (cl : List (Str × Addr)) (fp : List Addr), PE (X.blk s H scope (compEnvC scope cl C X.env) fp) kx tk)
    (he : ∀ (s : Shared) (H : Hp) (C : Addr) (cl : List (Str × Addr)) (fp : List Addr), PE (X.blk s H scope (compEnvC scope cl C X.env) fp) vx te) (hs : ∀ x, foldedSetIterable iter X.env x = pure x := by intro _; rfl) :
    PS X (.Assign [.Name y py] (.DictComp kx vx [⟨tg, iter, ifs, 0⟩] scope pos) spos) (tAsg (tDc wi g tt tk te (own.map (·.2))) (gName i)) := by
  refine ⟨fun pins s σ H D I h => ?_⟩
  rw [exec_Assign_Name_used _ _ _ _ hsw]
  refine wpAny_bind (wpAny_standAt (wpAny_bind ?_))
  show wpAny _ X.A (do let _ ← comprehension (.DictComp kx vx [⟨tg, iter, ifs, 0⟩] scope pos) scope X.env (firstIterPos [⟨tg, iter, ifs, 0⟩] pos) newDict false (eval iter X.env) (some (assign (.Name y py) X.env))) _ _ s
  have h : tDc wi g tt tk te (own.map (·.2)) σ H (fun x H1 => gName i x σ H1 D.nx) := h
  refine wpAny_bind (thn (dc_core (Qf := fun _ s' => SP X pins D .next s') hc hN I hi ok hg ht hk he hs h fun L C s' m H' I' q hn f => ?_) fun _ s' hq => wpAny_pure (wpAny_pure hq))
  show wpAny _ _ (assign (.Name y py) X.env (.ref L)) _ _ _
  refine wpAny_assign_Name (store_ok2 (v := V.ref L) I' hN hy (.inl hyl) rfl (fun s2 I2 ⟨a, sb, ha⟩ => ?_) (.inr hyl))
  obtain ⟨f0, f1, f2, f3, f4, f5⟩ := f
  have haC : C ≠ a := by
    rcases ha with z | z
    · rw [z]; exact f1
    · exact fun e => f4 y a z e.symm
  refine ⟨m, hn.sameBut sb haC, fun h3 sb3 => ?_⟩
  exact ⟨_, H', I2.turned (t' := s2.toks) (fun b o hb e => (sb3.2 b hb).trans e) f0 f1 f3 f4 f5, q⟩
theorem swd_true {kx vx : Expr} {gs : List Comprehension} {scope : Scope} {pos py : Pos} {y : Str} {l : Nat} {env : Env} (hk : env.scope.kind = .function) (hy : env.scope.names.lookup y = some .local) (hl : (py.line == pos.line) = true)
    (ha : (scope.names.any fun (n, k) => n == y && (k == .local || k == .cell)) = false) : swapsWith (.DictComp kx vx gs scope pos) (some (.Name y py)) l env = pure true := by
  have ky : env.kindOf y = some .local := hy
  have hb : env.blockKind = .function := by unfold Env.blockKind; rw [hk]; rfl
  unfold swapsWith
  simp only [hb, ky, ha, Expr.pos, hl]
  rfl
/-! texts -/
theorem letters_all {t : Tx} (h : ∀ c ∈ t, 97 ≤ c ∧ c ≤ 122) : ∀ c ∈ t, (("abcdefghijklmnopqrstuvwxyz" : Str).cps.contains c) = true := by
  have key : ∀ c : Nat, c < 123 → 97 ≤ c → (("abcdefghijklmnopqrstuvwxyz" : Str).cps.contains c) = true := by decide +kernel
  exact fun c hc => key c (by have := h c hc; omega) (h c hc).1
theorem takeWhile_all {p : Nat → Bool} : ∀ {t : Tx}, (∀ c ∈ t, p c = true) → t.takeWhile p = t
  | [], _ => rfl
  | a :: t, h => by
    rw [List.takeWhile_cons, if_pos (h a (List.mem_cons_self ..)), takeWhile_all fun c hc => h c (List.mem_cons_of_mem _ hc)]
theorem strip_all {t : Tx} {z : Str} (h : ∀ c ∈ t, z.cps.contains c = true) : Txt.stripChars (S t) z = S [] := by
  have e1 : (S t).cps.toList.takeWhile z.cps.contains = t := takeWhile_all h
  have e0 : stripLo z.cps.contains true (S t) = t.length := by
    unfold stripLo
    rw [if_pos rfl, e1]
  have e3 : stripHi z.cps.contains true (S t) t.length = t.length := by
    unfold stripHi
    rw [if_pos rfl]
    have : (S t).cps.toList.drop t.length = [] := List.drop_eq_nil_of_le (Nat.le_refl _)
    rw [this, S_len]
    rfl
  unfold Txt.stripChars Txt.stripBy stripSame
  rw [e0, e3]
  by_cases hz : t = []
  · subst hz
    rfl
  · rw [if_neg]
    · unfold stripped
      rw [e0, e3]
      show Builtin.Str.strSub (S t) t.length t.length = S []
      unfold Builtin.Str.strSub
      simp
    · have : t.length ≠ 0 := fun q => hz (List.length_eq_zero_iff.mp q)
      simp [this]
/-! lists of texts compared -/
theorem dpAllT {K : PySem.W.Frag} {H : Hp} : ∀ xs : List Tx, DpAll K H (xs.map tV) (xs.map fun t => PyData.str (S t))
  | [] => .nil
  | t :: r => .cons (.str _) (dpAllT r)
theorem dpT {K : PySem.W.Frag} {H : Hp} {a : Addr} {xs : List Tx} (h : SqL K H a (xs.map tV)) : Dp K H (.ref a) (.list (xs.map fun t => PyData.str (S t))) := .lst h (dpAllT xs)
/-- small texts -/
def Sml (xs : List Tx) : Prop := ∀ t ∈ xs, t.length ≤ 1000 ∧ ∀ c ∈ t, c ≤ 1000
theorem layT : ∀ xs : List Tx, Sml xs → PyData.canLayAll0 (xs.map fun t => PyData.str (S t)) = true
  | [], _ => rfl
  | t :: r, h => by
    show (PyData.canLay0 (.str (S t)) && PyData.canLayAll0 (r.map fun t => PyData.str (S t))) = true
    obtain ⟨h1, h2⟩ := h t (List.mem_cons_self ..)
    rw [layT r fun u hu => h u (List.mem_cons_of_mem _ hu), Bool.and_true, PyData.canLay0]
    unfold PyData.strOk
    rw [← Array.all_toList]
    exact List.all_eq_true.mpr fun c hc => decide_eq_true (Nat.lt_of_le_of_lt (h2 c hc) (by decide))
theorem depthT : ∀ xs : List Tx, PyData.depthAll (xs.map fun t => PyData.str (S t)) ≤ 1
  | [] => Nat.zero_le _
  | t :: r => by
    have h := depthT r
    show max (PyData.depth (.str (S t))) (PyData.depthAll (r.map fun t => PyData.str (S t))) ≤ 1
    have h2 : PyData.depth (.str (S t)) ≤ 1 := by simp [PyData.depth]
    omega
theorem shapedT {xs : List Tx} (h : Sml xs) : SeqAt.shaped (.list (xs.map fun t => PyData.str (S t))) = true := by
  have h1 := layT xs h
  have h2 := depthT xs
  unfold SeqAt.shaped
  rw [Bool.and_eq_true]
  refine ⟨by rw [PyData.canLay0]; exact h1, decide_eq_true ?_⟩
  rw [PyData.depth]
  omega
theorem eqvT : ∀ xs ys : List Tx, PyData.eqvAll (xs.map fun t => PyData.str (S t)) (ys.map fun t => PyData.str (S t)) = decide (xs = ys)
  | [], [] => rfl
  | [], _ :: _ => by simp [PyData.eqvAll]
  | _ :: _, [] => by simp [PyData.eqvAll]
  | x :: xs, y :: ys => by
    have h := eqvT xs ys
    have h3 : PyData.eqv (.str (S x)) (.str (S y)) = (S x == S y) := by rw [PyData.eqv]
    rw [List.map_cons, List.map_cons, PyData.eqvAll, h3, h, S_beq_eq]
    by_cases e1 : x = y
    · by_cases e2 : xs = ys
      · simp [e1, e2]
      · simp [e1, e2]
    · simp [e1]
theorem eq_texts {K : PySem.W.Frag} {H : Hp} {a b : Addr} {xs ys : List Tx} {Q : VK} (h1 : SqL K H a (xs.map tV)) (h2 : SqL K H b (ys.map tV)) (s1 : Sml xs) (s2 : Sml ys) (q : Q (.bl (decide (xs = ys))) H) : rEqD K (.ref a) (.ref b) H Q := by
  refine ⟨_, _, dpT h1, dpT h2, shapedT s1, shapedT s2, ?_⟩
  have e : PyData.eqv (.list (xs.map fun t => PyData.str (S t))) (.list (ys.map fun t => PyData.str (S t))) = decide (xs = ys) := by
    rw [PyData.eqv]
    exact eqvT xs ys
  rw [e]
  exact q
theorem ne_texts {K : PySem.W.Frag} {H : Hp} {a b : Addr} {xs ys : List Tx} {Q : VK} (h1 : SqL K H a (xs.map tV)) (h2 : SqL K H b (ys.map tV)) (s1 : Sml xs) (s2 : Sml ys) (q : Q (.bl (!decide (xs = ys))) H) : rNeD K (.ref a) (.ref b) H Q := by
  refine ⟨_, _, dpT h1, dpT h2, shapedT s1, shapedT s2, ?_⟩
  have e : PyData.eqv (.list (xs.map fun t => PyData.str (S t))) (.list (ys.map fun t => PyData.str (S t))) = decide (xs = ys) := by
    rw [PyData.eqv]
    exact eqvT xs ys
  rw [e]
  exact q
theorem sml_nil : Sml [] := fun _ h => by cases h
theorem sq {K : PySem.W.Frag} {H : Hp} {a : Addr} {xs : List V} (h : H a = some (.lst xs)) : SqL K H a xs := .inl (.inl h)
theorem st {K : PySem.W.Frag} {H : Hp} {a : Addr} {xs : List V} (h : H a = some (.tup xs)) : SqT K H a xs := .inl (.inl h)
theorem small {n : Nat} (h : n ≤ 1000000) : n ≤ sizeLine := Nat.le_trans h (by decide)
theorem smallT {t : Tx} (h : t.length ≤ 1000000) : (S t).length ≤ sizeLine := by
  rw [S_len]
  exact small h
end Sk
end
section
set_option Elab.async false
set_option linter.all false
set_option maxRecDepth 100000
set_option maxHeartbeats 4000000
namespace Sk
open PySem PySem.Spec PyProof.Rows L2 SX C8
section
variable {P : Program} {w : World} {K : PySem.W.Frag} {mg : Str → Option Value} {base : Heap}
/-! kinds -/
theorem scIsWhole : FnScope ["value"] ["value"] (defScope sIsWhole) := fnScope_by (by decide +kernel)
def spIsWhole : Sp := fun vs H Q _ => ∃ i : Int, vs = [.int i] ∧ Q (.bl true) H
theorem c_is_whole (C : Ctx K mg) : Cal P w K mg base 1 "is_whole" spIsWhole [] := by
  refine (fIsWhole C).cal scIsWhole (fun _ _ _ _ _ _ us hl => match us, hl with | [_], _ => rfl) (fun vs H Q E h => ?_) (fun cdv A outer s H vs Q E hr h => ?_)
  · obtain ⟨i, rfl, _⟩ := h
    rfl
  obtain ⟨i, rfl, q⟩ := h
  refine ⟨_, pss_one (ps_ret (pe_and (pe_callB call_isi (by rfl) (b_isinstance C) boot_isinstance (pa_cons (pv 0) (pa_cons (pe_bltn (v := .ty "int") (by rfl) (b_int C) boot_int rfl) pa_nil)))
    (pe_one (pe_not (pe_callB call_isi (by rfl) (b_isinstance C) boot_isinstance (pa_cons (pv 0) (pa_cons (pe_bltn (v := .ty "bool") (by rfl) (b_bool C) boot_bool rfl) pa_nil))))))), ?_⟩
  refine ⟨.int i, rfl, .int i, .ty "int", .type "int", .type "int", true, rfl, .ty _, .base (.int i), kit_ty (by decide +kernel), true, rfl, iteT ?_⟩
  refine ⟨.int i, rfl, .int i, .ty "bool", .type "int", .type "bool", false, rfl, .ty _, .base (.int i), kit_ty (by decide +kernel), false, rfl, ?_⟩
  exact q
theorem scIsBetween : FnScope ["value", "low", "high"] ["value", "low", "high"] (defScope sIsBetween) := fnScope_by (by decide +kernel)
def upTo (i : Int) (hi : V) : Prop := hi = .non ∨ ∃ j, hi = .int j ∧ i ≤ j
def spIsBetween : Sp := fun vs H Q _ => ∃ (i lo : Int) (hi : V), vs = [.int i, .int lo, hi] ∧ lo ≤ i ∧ upTo i hi ∧ Q (.bl true) H
theorem c_is_between (C : Ctx K mg) : Cal P w K mg base 2 "is_between" spIsBetween [] := by
  refine (fIsBetween C).cal scIsBetween (fun _ _ _ _ _ _ us hl => match us, hl with | [_, _, _], _ => rfl) (fun vs H Q E h => ?_) (fun cdv A outer s H vs Q E hr h => ?_)
  · obtain ⟨i, lo, hi, rfl, _⟩ := h
    rfl
  obtain ⟨i, lo, hi, rfl, h1, h2, q⟩ := h
  refine ⟨_, pss_cons (ps_if (pt_not (pt_val (pe_c (c_is_whole C) hr (by decide) (by rfl) (pa_cons (pv 0) pa_nil)))) (pss_one (ps_ret pe_bl)) pss_nil)
    (pss_one (ps_ret (pe_and (pe_or (pe_cmpR op_isN (pv 1) pe_non (nomark _)) (pe_one (pe_cmpR op_ge (pv 0) (pv 1) (nomark _))))
      (pe_one (pe_or (pe_cmpR op_isN (pv 2) pe_non (nomark _)) (pe_one (pe_cmpR op_le (pv 0) (pv 2) (nomark _)))))))), ?_⟩
  refine ⟨.int i, rfl, i, rfl, true, rfl, iteF ?_⟩
  refine ⟨.int lo, rfl, rfl, false, rfl, iteF ⟨.int i, rfl, .int lo, rfl, i, lo, rfl, rfl, true, bl_t h1, iteT ?_⟩⟩
  rcases h2 with rfl | ⟨j, rfl, h2⟩
  · exact ⟨.non, rfl, rfl, true, rfl, iteT q⟩
  · refine ⟨.int j, rfl, rfl, false, rfl, iteF ⟨.int i, rfl, .int j, rfl, i, j, rfl, rfl, ?_⟩⟩
    exact qT (Q := Q) h2 q
theorem scCheckNumber : FnScope ["number", "low", "high"] ["number", "low", "high"] (defScope sCheckNumber) := fnScope_by (by decide +kernel)
def spCheckNumber : Sp := fun vs H Q _ => ∃ (i lo : Int) (hi : V), vs = [.int i, .int lo, hi] ∧ lo ≤ i ∧ upTo i hi ∧ Q .non H
theorem c_check_number (C : Ctx K mg) : Cal P w K mg base 3 "check_number" spCheckNumber [] := by
  refine (fCheckNumber C).cal scCheckNumber (fun _ _ _ _ _ _ us hl => match us, hl with | [_, _, _], _ => rfl) (fun vs H Q E h => ?_) (fun cdv A outer s H vs Q E hr h => ?_)
  · obtain ⟨i, lo, hi, rfl, _⟩ := h
    rfl
  obtain ⟨i, lo, hi, rfl, h1, h2, q⟩ := h
  refine ⟨_, pss_one (ps_if (pt_not (pt_val (pe_c (c_is_between C) hr (by decide) (by rfl) (pa_cons (pv 0) (pa_cons (pv 1) (pa_cons (pv 2) pa_nil)))))) (pss_one ps_never) pss_nil), ?_⟩
  exact ⟨.int i, rfl, .int lo, rfl, hi, rfl, i, lo, hi, rfl, h1, h2, true, rfl, iteF q⟩
theorem scIsStringOf : FnScope ["value", "signs"] ["value", "signs"] (defScope sIsStringOf) := fnScope_by (by decide +kernel)
def Lo (t : Tx) : Prop := ∀ c ∈ t, 97 ≤ c ∧ c ≤ 122
def spIsStringOf : Sp := fun vs H Q _ => ∃ (t : Tx) (z : Str), vs = [tV t, .str z] ∧ t.length ≤ 100000 ∧ (∀ c ∈ t, z.cps.contains c = true) ∧ Q (.bl true) H
theorem c_is_string_of (C : Ctx K mg) : Cal P w K mg base 1 "is_string_of" spIsStringOf [] := by
  refine (fIsStringOf C).cal scIsStringOf (fun _ _ _ _ _ _ us hl => match us, hl with | [_, _], _ => rfl) (fun vs H Q E h => ?_) (fun cdv A outer s H vs Q E hr h => ?_)
  · obtain ⟨t, z, rfl, _⟩ := h
    rfl
  obtain ⟨t, z, rfl, hl, hz, q⟩ := h
  refine ⟨_, pss_one (ps_ret (pe_and (pe_callB call_isi (by rfl) (b_isinstance C) boot_isinstance (pa_cons (pv 0) (pa_cons (pe_bltn (v := .ty "str") (by rfl) (b_str C) boot_str rfl) pa_nil)))
    (pe_one (pe_cmpR op_eq (pe_m1 PySem.F.slot_str_strip PySem.F.type_str_strip mt_stripChars (pv 0) (pv 1)) pe_str (nomark _))))), ?_⟩
  refine ⟨tV t, rfl, tV t, .ty "str", .type "str", .type "str", true, rfl, .ty _, .base (.str _), kit_ty (by decide +kernel), true, rfl, iteT ?_⟩
  refine ⟨tV t, rfl, ⟨S t, rfl⟩, .str z, rfl, S t, z, rfl, rfl, by rw [S_len]; exact Nat.le_trans hl (by decide), rfl, ?_⟩
  rw [strip_all hz]
  exact q
theorem scIsLettersAlone : FnScope ["value"] ["value"] (defScope sIsLettersAlone) := fnScope_by (by decide +kernel)
def spIsLettersAlone : Sp := fun vs H Q _ => ∃ (t : Tx), vs = [tV t] ∧ t.length ≤ 100000 ∧ Lo t ∧ Q (.bl true) H
theorem c_is_letters_alone (C : Ctx K mg) : Cal P w K mg base 2 "is_letters_alone" spIsLettersAlone [] := by
  refine (fIsLettersAlone C).cal scIsLettersAlone (fun _ _ _ _ _ _ us hl => match us, hl with | [_], _ => rfl) (fun vs H Q E h => ?_) (fun cdv A outer s H vs Q E hr h => ?_)
  · obtain ⟨t, rfl, _⟩ := h
    rfl
  obtain ⟨t, rfl, hl, hz, q⟩ := h
  obtain ⟨tk, hm⟩ := i_LETTERS C
  refine ⟨_, pss_one (ps_ret (pe_c (c_is_string_of C) hr (by decide) (by rfl) (pa_cons (pv 0) (pa_cons (pe_glob (v := .str "abcdefghijklmnopqrstuvwxyz") (by rfl) hm ⟨tk, rfl⟩) pa_nil)))), ?_⟩
  exact ⟨tV t, rfl, t, _, rfl, hl, letters_all hz, q⟩
theorem scCheckText : FnScope ["text"] ["text"] (defScope sCheckText) := fnScope_by (by decide +kernel)
def spCheckText : Sp := fun vs H Q _ => ∃ (t : Tx), vs = [tV t] ∧ t.length ≤ 100000 ∧ Lo t ∧ Q .non H
theorem c_check_text (C : Ctx K mg) : Cal P w K mg base 3 "check_text" spCheckText [] := by
  refine (fCheckText C).cal scCheckText (fun _ _ _ _ _ _ us hl => match us, hl with | [_], _ => rfl) (fun vs H Q E h => ?_) (fun cdv A outer s H vs Q E hr h => ?_)
  · obtain ⟨t, rfl, _⟩ := h
    rfl
  obtain ⟨t, rfl, hl, hz, q⟩ := h
  refine ⟨_, pss_one (ps_if (pt_not (pt_val (pe_c (c_is_letters_alone C) hr (by decide) (by rfl) (pa_cons (pv 0) pa_nil)))) (pss_one ps_never) pss_nil), ?_⟩
  exact ⟨tV t, rfl, t, rfl, hl, hz, true, rfl, iteF q⟩
theorem scCheckWord : FnScope ["word"] ["word"] (defScope sCheckWord) := fnScope_by (by decide +kernel)
theorem c_check_word (C : Ctx K mg) : Cal P w K mg base 3 "check_word" spCheckText [] := by
  refine (fCheckWord C).cal scCheckWord (fun _ _ _ _ _ _ us hl => match us, hl with | [_], _ => rfl) (fun vs H Q E h => ?_) (fun cdv A outer s H vs Q E hr h => ?_)
  · obtain ⟨t, rfl, _⟩ := h
    rfl
  obtain ⟨t, rfl, hl, hz, q⟩ := h
  refine ⟨_, pss_one (ps_if (pt_not (pt_val (pe_c (c_is_letters_alone C) hr (by decide) (by rfl) (pa_cons (pv 0) pa_nil)))) (pss_one ps_never) pss_nil), ?_⟩
  exact ⟨tV t, rfl, t, rfl, hl, hz, true, rfl, iteF q⟩
theorem scCheckDepth : FnScope ["depth"] ["depth"] (defScope sCheckDepth) := fnScope_by (by decide +kernel)
def spCheckDepth : Sp := fun vs H Q _ => ∃ (d : Nat), vs = [.int (d : Int)] ∧ Q .non H
theorem c_check_depth (C : Ctx K mg) : Cal P w K mg base 4 "check_depth" spCheckDepth [] := by
  refine (fCheckDepth C).cal scCheckDepth (fun _ _ _ _ _ _ us hl => match us, hl with | [_], _ => rfl) (fun vs H Q E h => ?_) (fun cdv A outer s H vs Q E hr h => ?_)
  · obtain ⟨t, rfl, _⟩ := h
    rfl
  obtain ⟨d, rfl, q⟩ := h
  refine ⟨_, pss_one (ps_expr (pe_c (c_check_number C) hr (by decide) (by rfl) (pa_cons (pv 0) (pa_cons pe_int (pa_cons pe_non pa_nil))))), ?_⟩
  exact ⟨_, rfl, d, 0, .non, rfl, Int.natCast_nonneg d, .inl rfl, q⟩
/-! alphabets -/
def Alp (L : Tx) : Prop := L = [97, 98] ∨ L = [97, 98, 99]
theorem Alp.lo {L : Tx} (h : Alp L) : Lo L := by
  rcases h with rfl | rfl <;> (intro c hc; simp at hc; omega)
theorem scIsLetters : FnScope ["value", "at"] ["value"] (defScope sIsLetters) := fnScope_by (by decide +kernel)
def spIsLetters : Sp := fun vs H Q _ => ∃ (L : Tx), vs = [tV L] ∧ Alp L ∧ ∀ H', Same H H' → Q (.bl true) H'
theorem c_is_letters (C : Ctx K mg) : Cal P w K mg base 3 "is_letters" spIsLetters [] := by
  refine (fIsLetters C).cal scIsLetters (fun _ _ _ _ _ _ us hl => match us, hl with | [_], _ => rfl) (fun vs H Q E h => ?_) (fun cdv A outer s H vs Q E hr h => ?_)
  · obtain ⟨t, rfl, _⟩ := h
    rfl
  obtain ⟨L, rfl, hL, q⟩ := h
  obtain ⟨tk, hm⟩ := i_MOST_LETTERS C
  refine ⟨_, pss_cons (ps_if (PW.pt (pw_or (pt_not (pt_val (pe_c (c_is_letters_alone C) hr (by decide) (by rfl) (pa_cons (pv 0) pa_nil))))
      (pw_or1 (pt_not (pt_chain op_le op_le pe_int (pe_callB call_len_str (by rfl) (b_len C) boot_len (pa_cons (pv 0) pa_nil)) (pe_glob (v := .int 4) (by rfl) hm ⟨tk, rfl⟩)))))) (pss_one (ps_ret pe_bl)) pss_nil)
    (pss_one (ps_ret (pe_cmpR (op_eqD hr.units)
      (pe_lc (own := [("at", 1)]) (g := gName 1) (by rfl) scIsLetters.nd (pi_range2 (by rfl) (b_range C) (pa_cons pe_int (pa_cons (pe_callB call_len_str (by rfl) (b_len C) boot_len (pa_cons (pv 0) pa_nil)) pa_nil)))
        (blkOk_by (own := [("at", 1)]) (N := ["value", "at"]) (sc := defScope sIsLetters) (by decide +kernel)) (fun _ _ _ _ _ => pg_name (i := 1) scIsLetters.nd rfl (Or.inl rfl))
        (fun _ _ _ _ _ => pts_one (pt_cmpR op_ge_str (pe_ix ix_str (pv 0) (pe_op op_sub (pv 1) pe_int) (fun _ _ => rfl)) (pe_ix ix_str (pv 0) (pv 1) (fun _ _ => rfl)) (nomark _)))
        (fun _ _ _ _ _ => pv 1))
      (pe_lst pa_nil) (nomark _)))), ?_⟩
  have hlen : L.length ≤ 3 := by rcases hL with rfl | rfl <;> decide
  have hlen2 : 2 ≤ L.length := by rcases hL with rfl | rfl <;> decide
  have hz : (S L).length ≤ sizeLine := by rw [S_len]; exact Nat.le_trans hlen (by decide)
  refine ⟨tV L, rfl, L, rfl, by omega, hL.lo, true, rfl, iteF ?_⟩
  refine ⟨tV L, rfl, S L, rfl, hz, 1, _, rfl, rfl, true, bl_t (by rw [S_len]; omega), iteT ⟨_, _, rfl, rfl, true, bl_t (by rw [S_len]; omega), iteF ?_⟩⟩
  have asc : ∀ i, i + 1 < L.length → ∃ c d, L[i]? = some c ∧ L[i + 1]? = some d ∧ ([c] : List Nat) < [d] := by
    rcases hL with rfl | rfl
    · intro i hi
      have : i = 0 := by simp at hi; omega
      subst this
      exact ⟨97, 98, rfl, rfl, by decide⟩
    · intro i hi
      have : i = 0 ∨ i = 1 := by simp at hi; omega
      rcases this with rfl | rfl
      · exact ⟨97, 98, rfl, rfl, by decide⟩
      · exact ⟨98, 99, rfl, rfl, by decide⟩
  refine ⟨tV L, rfl, S L, rfl, hz, 1, _, rfl, ⟨by omega, by omega, by omega, by rw [S_len]; omega⟩, fun D hD => lc_range (lo := 1) (fun _ H' => Same H H' ∧ H' D = some (.lst [])) ⟨sm_new hD _, upd_same⟩ (fun i H' hi p => ?_) (fun H' p => ?_)⟩
  · obtain ⟨c, d, e1, e2, lt⟩ := asc i (by rw [S_len] at hi; omega)
    refine ⟨rfl, ?_⟩
    refine ⟨tV L, rfl, .int (1 + (i : Int)), rfl, 1 + (i : Int), 1, rfl, rfl, S L, (i : Int), c, rfl, by show V.int (1 + (i : Int) - 1) = _; rw [show 1 + (i : Int) - 1 = (i : Int) by omega], hz, atI_nat e1, ?_⟩
    refine ⟨tV L, rfl, .int (1 + (i : Int)), rfl, S L, 1 + (i : Int), d, rfl, rfl, hz, by rw [show 1 + (i : Int) = ((i + 1 : Nat) : Int) by omega]; exact atI_nat e2, ?_⟩
    refine ⟨_, _, rfl, rfl, false, ?_, ?_⟩
    · have : decide (([c] : List Nat) < [d]) = true := decide_eq_true lt
      show V.bl (!decide (([c] : List Nat) < [d])) = V.bl false
      rw [this]
      rfl
    · exact p
  · obtain ⟨p1, p2⟩ := p
    refine ⟨Nat.zero_le _, fun e he => ?_⟩
    have sm2 : Same H' (upd H' e (.lst [])) := sm_new he _
    exact eq_texts (xs := []) (ys := []) (sq (sm2 _ _ p2)) (sq upd_same) sml_nil sml_nil (q _ (p1.trans sm2))
theorem scCheckLetters : FnScope ["letters"] ["letters"] (defScope sCheckLetters) := fnScope_by (by decide +kernel)
def spCheckLetters : Sp := fun vs H Q _ => ∃ (L : Tx), vs = [tV L] ∧ Alp L ∧ ∀ H', Same H H' → Q .non H'
theorem c_check_letters (C : Ctx K mg) : Cal P w K mg base 4 "check_letters" spCheckLetters [] := by
  refine (fCheckLetters C).cal scCheckLetters (fun _ _ _ _ _ _ us hl => match us, hl with | [_], _ => rfl) (fun vs H Q E h => ?_) (fun cdv A outer s H vs Q E hr h => ?_)
  · obtain ⟨t, rfl, _⟩ := h
    rfl
  obtain ⟨L, rfl, hL, q⟩ := h
  refine ⟨_, pss_one (ps_if (pt_not (pt_val (pe_c (c_is_letters C) hr (by decide) (by rfl) (pa_cons (pv 0) pa_nil)))) (pss_one ps_never) pss_nil), ?_⟩
  exact ⟨tV L, rfl, L, rfl, hL, fun H' s1 => ⟨true, rfl, iteF (q H' s1)⟩⟩
/-! words -/
def wordsN (L : Tx) : Nat → List Tx
  | 0 => [[]]
  | n + 1 => (wordsN L n).flatMap fun u => L.map fun c => u ++ [c]
theorem flat_len (L : Tx) : ∀ xs : List Tx, (xs.flatMap fun u => L.map fun c => u ++ [c]).length = xs.length * L.length
  | [] => by simp
  | x :: r => by
    rw [List.flatMap_cons, List.length_append, flat_len L r, List.length_map, List.length_cons, Nat.add_mul]
    omega
theorem wordsN_len (L : Tx) : ∀ n, (wordsN L n).length = L.length ^ n
  | 0 => rfl
  | n + 1 => by rw [wordsN, flat_len, wordsN_len L n, Nat.pow_succ]
theorem wordsN_each (L : Tx) : ∀ n, ∀ u ∈ wordsN L n, u.length = n
  | 0, u, h => by
    have : u = [] := by simpa [wordsN] using h
    rw [this]
    rfl
  | n + 1, u, h => by
    rw [wordsN, List.mem_flatMap] at h
    obtain ⟨v, hv, h⟩ := h
    obtain ⟨c, _, rfl⟩ := List.mem_map.mp h
    rw [List.length_append, wordsN_each L n v hv]
    rfl
theorem scWordsWith : FnScope ["letters", "size", "found", "_", "word", "letter"] ["letters", "size"] (defScope sWordsWith) := fnScope_by (by decide +kernel)
def spWordsWith : Sp := fun vs H Q _ => ∃ (L : Tx) (n : Nat), vs = [tV L, .int (n : Int)] ∧ Alp L ∧ n ≤ 3 ∧ RL ((wordsN L n).map tV) H Q
theorem pow_le3 {L : Tx} (h : Alp L) {n : Nat} (hn : n ≤ 3) : L.length ^ n ≤ 27 := by
  rcases h with rfl | rfl
  · exact Nat.le_trans (Nat.pow_le_pow_right (by decide) hn) (by decide)
  · exact Nat.le_trans (Nat.pow_le_pow_right (by decide) hn) (by decide)
theorem c_words_with (C : Ctx K mg) : Cal P w K mg base 1 "words_with" spWordsWith [] := by
  refine (fWordsWith C).cal scWordsWith (fun _ _ _ _ _ _ us hl => match us, hl with | [_, _], _ => rfl) (fun vs H Q E h => ?_) (fun cdv A outer s H vs Q E hr h => ?_)
  · obtain ⟨L, n, rfl, _⟩ := h
    rfl
  obtain ⟨L, n, rfl, hL, hn, q⟩ := h
  refine ⟨_, pss_cons (ps_set (i := 2) scWordsWith.nd rfl (Or.inl rfl) (pe_lst (pa_cons pe_str pa_nil)))
    (pss_cons (ps_for PassesOwn.never rfl (pi_range1 rfl (b_range C) (pa_cons (pv 1) pa_nil)) (pg_name (i := 3) scWordsWith.nd rfl (Or.inl rfl))
      (pss_one (ps_setLc2 (i := 2) (own := [("word", 4), ("letter", 5)]) (vs1 := [5]) (g := gName 4) (g1 := gName 5) (by rfl) scWordsWith.nd rfl rfl (sw_true rfl rfl rfl (by decide +kernel)) (pi_list (pv 2))
        (blkOk_by (own := [("word", 4), ("letter", 5)]) (N := ["letters", "size", "found", "_", "word", "letter"]) (sc := defScope sWordsWith) (by decide +kernel)) (by decide)
        (fun _ _ _ _ _ => pg_name (i := 4) scWordsWith.nd rfl (Or.inl rfl)) (fun _ _ _ _ _ => pts_nil)
        (fun _ _ _ _ _ => pi_str (pv 0))
        (fun _ _ _ _ _ => pg_name (i := 5) scWordsWith.nd rfl (Or.inl rfl)) (fun _ _ _ _ _ => pts_nil)
        (fun _ _ _ _ _ => pe_op op_add_str (pv 4) (pv 5)))))
    (pss_one (ps_ret (pv 2)))), ?_⟩
  refine ⟨by show 1 ≤ sizeLine; decide, fun p0 hp0 => ?_⟩
  refine ⟨.int (n : Int), rfl, (n : Int), rfl, by omega, by omega, for_range (lo := 0) (fun i σ H' => ∃ (a : Addr) (v : Option V), σ = [some (tV L), some (.int (n : Int)), some (.ref a), v, none, none] ∧ Same H H' ∧ H a = none ∧ H' a = some (.lst ((wordsN L i).map tV)))
    ⟨p0, none, rfl, sm_new hp0 _, hp0, upd_same⟩ (fun i σ H' hi p => ?_) (fun σ H' p => ?_)⟩
  · obtain ⟨a, v, rfl, sm, na, ha⟩ := p
    refine ⟨_, rfl, a, rfl, ⟨_, sq ha⟩, fun D hD => it_go (walk_list (K := K) (a := a) (xs := (wordsN L i).map tV)) (fun j H2 => Same H' H2 ∧ H2 D = some (.lst ((((wordsN L i).take j).flatMap fun u => L.map fun c => u ++ [c]).map tV))) ⟨sm_new hD _, upd_same⟩
      (fun j H2 _ p => sq (p.1 _ _ ha)) (fun j x H2 H3 hj p y => ?_) (fun H2 p => ?_)⟩
    · obtain ⟨rfl, hx⟩ := y
      obtain ⟨p1, p2⟩ := p
      obtain ⟨u, hu, rfl⟩ : ∃ u, (wordsN L i)[j]? = some u ∧ x = tV u := by
        rw [List.getElem?_map] at hx
        cases e : (wordsN L i)[j]? with
        | none => rw [e] at hx; cases hx
        | some u => rw [e] at hx; exact ⟨u, rfl, (Option.some.inj hx).symm⟩
      have ulen : u.length = i := wordsN_each L i u (List.mem_of_getElem? hu)
      refine ⟨rfl, ⟨tV L, rfl, S L, rfl, it_go walk_str (fun k H2 => Same H' H2 ∧ H2 D = some (.lst (((((wordsN L i).take j).flatMap fun u => L.map fun c => u ++ [c]) ++ (L.take k).map fun c => u ++ [c]).map tV))) ⟨p1, ?_⟩ (fun _ _ _ _ => trivial) (fun k x H2 H3 hk p y => ?_) (fun H2 p => ?_)⟩⟩
      · rw [p2]
        simp
      · obtain ⟨rfl, c, hc, rfl⟩ := y
        obtain ⟨p3, p4⟩ := p
        refine ⟨rfl, ?_⟩
        refine ⟨tV u, rfl, .str ⟨#[c]⟩, rfl, S u, ⟨#[c]⟩, rfl, rfl, ?_, _, p4, ?_, p3.mut hD _, ?_⟩
        · have : (S u).length + (S [c]).length ≤ sizeLine := by
            rw [S_len, S_len, ulen]
            exact small (by simp; omega)
          exact this
        · rw [List.length_map, List.length_append, flat_len, List.length_take, List.length_map, List.length_take, wordsN_len]
          have h1 : L.length ^ i ≤ 27 := pow_le3 hL (by omega)
          have h2 : L.length ≤ 3 := by rcases hL with rfl | rfl <;> decide
          have h3 : min j (L.length ^ i) * L.length ≤ 27 * 3 := Nat.mul_le_mul (by omega) h2
          exact small1000 (by omega)
        · rw [upd_same]
          have e1 : L[k]? = some c := by
            have : (S L).cps.toList[k]? = some c := by rw [← hc, Array.getElem?_toList]
            exact this
          rw [List.take_add_one, e1]
          have : S u ++ ⟨#[c]⟩ = S (u ++ [c]) := S_cat u [c]
          rw [this]
          simp
      · obtain ⟨p3, p4⟩ := p
        refine ⟨p3, ?_⟩
        rw [p4, List.take_add_one, hu]
        have e : (S L).cps.size = L.length := S_len L
        rw [e, List.take_length]
        simp
    · obtain ⟨p1, p2⟩ := p
      refine ⟨D, _, rfl, sm.trans p1, sm.free hD, ?_⟩
      rw [p2, List.length_map, List.take_length]
      rfl
  · obtain ⟨a, v, rfl, sm, na, ha⟩ := p
    exact ⟨.ref a, rfl, q a H' na sm (by rw [ha]; simp)⟩
/-- all words of at most so many letters, the shorter ones first -/
def wordsTo (L : Tx) : Nat → List Tx
  | 0 => []
  | n + 1 => wordsTo L n ++ wordsN L n
theorem wordsTo_len {L : Tx} (h : Alp L) {n : Nat} (hn : n ≤ 4) : (wordsTo L n).length ≤ 108 := by
  have aux : ∀ n, n ≤ 4 → (wordsTo L n).length ≤ 27 * n := by
    intro n
    induction n with
    | zero => intro _; exact Nat.le_refl _
    | succ n ih =>
      intro hn
      have h1 := ih (by omega)
      have h2 : (wordsN L n).length ≤ 27 := by rw [wordsN_len]; exact pow_le3 h (by omega)
      rw [wordsTo, List.length_append]
      omega
  have := aux n hn
  omega
theorem scWordsOf : FnScope ["letters", "depth", "found", "size"] ["letters", "depth"] (defScope sWordsOf) := fnScope_by (by decide +kernel)
def spWordsOf : Sp := fun vs H Q _ => ∃ (L : Tx) (n : Nat), vs = [tV L, .int (n : Int)] ∧ Alp L ∧ n ≤ 3 ∧ RL ((wordsTo L (n + 1)).map tV) H Q
theorem c_words_of (C : Ctx K mg) : Cal P w K mg base 2 "words_of" spWordsOf [] := by
  refine (fWordsOf C).cal scWordsOf (fun _ _ _ _ _ _ us hl => match us, hl with | [_, _], _ => rfl) (fun vs H Q E h => ?_) (fun cdv A outer s H vs Q E hr h => ?_)
  · obtain ⟨L, n, rfl, _⟩ := h
    rfl
  obtain ⟨L, n, rfl, hL, hn, q⟩ := h
  refine ⟨_, pss_cons (ps_set (i := 2) scWordsOf.nd rfl (Or.inl rfl) (pe_lst pa_nil))
    (pss_cons (ps_for PassesOwn.never rfl (pi_range1 rfl (b_range C) (pa_cons (pe_op op_add (pv 1) pe_int) pa_nil)) (pg_name (i := 3) scWordsOf.nd rfl (Or.inl rfl))
      (pss_one (ps_set (i := 2) scWordsOf.nd rfl (Or.inl rfl) (pe_op op_cat (pv 2) (pe_c (c_words_with C) hr (by decide) (by rfl) (pa_cons (pv 0) (pa_cons (pv 3) pa_nil)))))))
    (pss_one (ps_ret (pv 2)))), ?_⟩
  refine ⟨Nat.zero_le _, fun p0 hp0 => ?_⟩
  refine ⟨.int (n : Int), rfl, _, _, rfl, rfl, (n : Int) + 1, rfl, by omega, by omega, for_range (lo := 0) (fun i σ H' => ∃ (a : Addr) (v : Option V), σ = [some (tV L), some (.int (n : Int)), some (.ref a), v] ∧ Same H H' ∧ H a = none ∧ H' a = some (.lst ((wordsTo L i).map tV)))
    ⟨p0, none, rfl, sm_new hp0 _, hp0, upd_same⟩ (fun i σ H' hi p => ?_) (fun σ H' p => ?_)⟩
  · obtain ⟨a, v, rfl, sm, na, ha⟩ := p
    refine ⟨.ref a, rfl, tV L, rfl, .int (0 + (i : Int)), rfl, L, i, by rw [Int.zero_add]; rfl, hL, by omega, fun b H2 nb s2 hb => ?_⟩
    refine ⟨a, b, _, _, rfl, rfl, s2 _ _ ha, hb, ?_, fun c hc => ?_⟩
    · rw [List.length_map, List.length_map, wordsN_len]
      have h1 := wordsTo_len hL (n := i) (by omega)
      have h2 : L.length ^ i ≤ 27 := pow_le3 hL (by omega)
      exact small (by omega)
    · exact ⟨c, _, rfl, (sm.trans s2).trans (sm_new hc _), (sm.trans s2).free hc, by rw [upd_same, wordsTo, List.map_append]⟩
  · obtain ⟨a, v, rfl, sm, na, ha⟩ := p
    have e : ((n : Int) + 1).toNat = n + 1 := by omega
    rw [e] at ha
    exact ⟨.ref a, rfl, q a H' na sm ha⟩
end
end Sk
end
section
set_option autoImplicit false
namespace Sk
/-! deletions and swaps keep what is read -/
theorem del_alike {k : Nat} {p s : Tx} {c : Nat} (h : k + 1 < rk p.reverse c + rk s c + 2) : Alike k (p ++ c :: s) (p ++ s) := by
  intro w hw
  constructor
  · intro hs
    obtain ⟨l1, l2, rfl, h1, h2⟩ := List.sublist_append_iff.mp hs
    rw [List.length_append] at hw
    cases h2 with
    | cons _ h2 => exact List.Sublist.append h1 h2
    | cons_cons _ h2 =>
      rename_i l2
      by_cases e1 : (l1 ++ [c]).Sublist p
      · have := List.Sublist.append e1 h2
        rwa [List.append_assoc, List.singleton_append] at this
      · by_cases e2 : (c :: l2).Sublist s
        · exact List.Sublist.append h1 e2
        · have a1 := rkr_le p c l1 h1 e1
          have a2 := rk_le s c l2 h2 e2
          rw [List.length_cons] at hw
          omega
  · intro hs
    exact hs.trans (List.Sublist.append (List.Sublist.refl p) (List.sublist_cons_self c s))
theorem swap_alike {k : Nat} {p s : Tx} {c e : Nat} (h : rk p.reverse c + rk s e + 2 = k + 1) (h2 : rk p.reverse e = rk p.reverse c) (h3 : rk s c = rk s e) : Alike k (p ++ c :: e :: s) (p ++ e :: c :: s) := by
  have aux : ∀ c e : Nat, rk p.reverse c + rk s e + 2 = k + 1 → ∀ w : Tx, w.length ≤ k → w.Sublist (p ++ c :: e :: s) → w.Sublist (p ++ e :: c :: s) := by
    intro c e h w hw hs
    obtain ⟨l1, l2, rfl, h1, h2⟩ := List.sublist_append_iff.mp hs
    rw [List.length_append] at hw
    cases h2 with
    | cons _ h2 =>
      refine List.Sublist.append h1 (h2.trans ?_)
      exact (List.sublist_cons_self c s).cons_cons e
    | cons_cons _ h2 =>
      rename_i l2
      cases h2 with
      | cons _ h2 => exact List.Sublist.append h1 ((h2.cons_cons c).cons e)
      | cons_cons _ h2 =>
        rename_i l2
        simp only [List.length_cons] at hw
        by_cases e1 : (l1 ++ [c]).Sublist p
        · have := List.Sublist.append e1 (h2.cons_cons e)
          rw [List.append_assoc, List.singleton_append] at this
          refine this.trans (List.Sublist.append (List.Sublist.refl p) ?_)
          exact (List.sublist_cons_self c s).cons_cons e
        · by_cases e2 : (e :: l2).Sublist s
          · exact List.Sublist.append h1 ((e2.cons_cons c).cons e)
          · have a1 := rkr_le p c l1 h1 e1
            have a2 := rk_le s e l2 h2 e2
            omega
  intro w hw
  exact ⟨aux c e h w hw, aux e c (by omega) w hw⟩
/-! the ranks of all places -/
def rka : Tx → Tx → List Nat
  | _, [] => []
  | r, c :: t => (rk r c + 1) :: rka (c :: r) t
def rkb : Tx → List Nat
  | [] => []
  | c :: s => (rk s c + 1) :: rkb s
theorem rka_len : ∀ (r t : Tx), (rka r t).length = t.length
  | _, [] => rfl
  | r, c :: t => by rw [rka, List.length_cons, rka_len (c :: r) t, List.length_cons]
theorem rkb_len : ∀ t : Tx, (rkb t).length = t.length
  | [] => rfl
  | c :: s => by rw [rkb, List.length_cons, rkb_len s, List.length_cons]
theorem rka_app : ∀ (r s t : Tx), rka r (s ++ t) = rka r s ++ rka (s.reverse ++ r) t
  | r, [], t => by simp [rka]
  | r, c :: s, t => by
    rw [List.cons_append, rka, rka_app (c :: r) s t, rka, List.cons_append]
    simp
theorem rkb_rev : ∀ t : Tx, (rka [] t.reverse).reverse = rkb t
  | [] => rfl
  | c :: s => by
    rw [List.reverse_cons, rka_app, List.reverse_append, rkb_rev s, rkb]
    simp [rka]
theorem rka_at (p : Tx) (c : Nat) (s : Tx) : (rka [] (p ++ c :: s))[p.length]? = some (rk p.reverse c + 1) := by
  rw [rka_app, List.append_nil, rka]
  have h := rka_len [] p
  rw [List.getElem?_append_right (by omega), h]
  simp
/-- places of p in p ++ u, from behind -/
def rkp : Tx → Tx → List Nat
  | [], _ => []
  | c :: p, u => (rk (p ++ u) c + 1) :: rkp p u
theorem rkb_app : ∀ p u : Tx, rkb (p ++ u) = rkp p u ++ rkb u
  | [], _ => rfl
  | c :: p, u => by rw [List.cons_append, rkb, rkb_app p u, rkp, List.cons_append]
theorem rkp_len : ∀ p u : Tx, (rkp p u).length = p.length
  | [], _ => rfl
  | c :: p, u => by rw [rkp, List.length_cons, rkp_len p u, List.length_cons]
theorem rkb_at (p : Tx) (c : Nat) (s : Tx) : (rkb (p ++ c :: s))[p.length]? = some (rk s c + 1) := by
  rw [rkb_app, rkb, List.getElem?_append_right (by rw [rkp_len]; exact Nat.le_refl _), rkp_len]
  simp
theorem rk_congr : ∀ (p : Tx) {u u' : Tx}, (∀ z, rk u z = rk u' z) → ∀ z, rk (p ++ u) z = rk (p ++ u') z
  | [], _, _, h, z => h z
  | d :: p, u, u', h, z => by
    have ih := rk_congr p h
    rw [List.cons_append, List.cons_append, rk, rk, ih z, ih d]
theorem rkp_congr : ∀ (p : Tx) {u u' : Tx}, (∀ z, rk u z = rk u' z) → rkp p u = rkp p u'
  | [], _, _, _ => rfl
  | c :: p, u, u', h => by rw [rkp, rkp, rk_congr p h c, rkp_congr p h]
theorem rka_congr : ∀ (s : Tx) {r r' : Tx}, (∀ z, rk r z = rk r' z) → rka r s = rka r' s
  | [], _, _, _ => rfl
  | c :: s, r, r', h => by
    rw [rka, rka, h c, rka_congr s (r := c :: r) (r' := c :: r') fun z => by rw [rk, rk, h z, h c]]
theorem rk_swap {r : Tx} {c e : Nat} (ne : c ≠ e) (h : rk r c = rk r e) (z : Nat) : rk (c :: e :: r) z = rk (e :: c :: r) z := by
  have h1 : rk (e :: r) c = rk r c := by
    rw [rk, if_neg ne]
    omega
  have h2 : rk (c :: r) e = rk r e := by
    rw [rk, if_neg (Ne.symm ne)]
    omega
  by_cases hc : z = c
  · subst hc
    rw [rk, if_pos rfl, h1]
    rw [rk, if_neg ne, rk, if_pos rfl, h2]
    omega
  · by_cases he : z = e
    · subst he
      rw [rk, if_neg hc, h1, rk, if_pos rfl]
      rw [rk, if_pos rfl, h2]
      omega
    · rw [rk, if_neg hc, rk, if_neg he, h1]
      rw [rk, if_neg he, rk, if_neg hc, h2]
      omega
/-- what a swap asks -/
structure Sw (k : Nat) (p : Tx) (c e : Nat) (s : Tx) : Prop where
  x : rk p.reverse c = rk (c :: p.reverse) e
  y : rk (e :: s) c = rk s e
  s : rk p.reverse c + rk s e + 2 = k + 1
  d : e < c
theorem Sw.xe {k : Nat} {p s : Tx} {c e : Nat} (h : Sw k p c e s) : rk p.reverse e = rk p.reverse c := by
  have h1 := h.x
  rw [rk, if_neg (by have := h.d; omega)] at h1
  omega
theorem Sw.yc {k : Nat} {p s : Tx} {c e : Nat} (h : Sw k p c e s) : rk s c = rk s e := by
  have h1 := h.y
  rw [rk, if_neg (by have := h.d; omega)] at h1
  omega
theorem Sw.alike {k : Nat} {p s : Tx} {c e : Nat} (h : Sw k p c e s) : Alike k (p ++ c :: e :: s) (p ++ e :: c :: s) := swap_alike h.s h.xe h.yc
theorem Sw.rka {k : Nat} {p s : Tx} {c e : Nat} (h : Sw k p c e s) : rka [] (p ++ e :: c :: s) = rka [] (p ++ c :: e :: s) := by
  have ne : c ≠ e := by have := h.d; omega
  rw [rka_app, rka_app, Sk.rka, Sk.rka, Sk.rka, Sk.rka]
  simp only [List.append_nil]
  have e1 : rk p.reverse e = rk p.reverse c := h.xe
  have e2 : rk (e :: p.reverse) c = rk (c :: p.reverse) e := by
    rw [rk, if_neg ne, rk, if_neg (Ne.symm ne)]
    omega
  rw [e1, e2, rka_congr s (rk_swap (r := p.reverse) ne e1.symm)]
theorem Sw.rkb {k : Nat} {p s : Tx} {c e : Nat} (h : Sw k p c e s) : rkb (p ++ e :: c :: s) = rkb (p ++ c :: e :: s) := by
  have ne : c ≠ e := by have := h.d; omega
  have hc := rk_swap (r := s) ne h.yc
  rw [rkb_app, rkb_app, rkp_congr p fun z => (hc z).symm, Sk.rkb, Sk.rkb, Sk.rkb, Sk.rkb]
  have e1 : rk s c = rk s e := h.yc
  have e2 : rk (c :: s) e = rk (e :: s) c := by
    rw [rk, if_neg (Ne.symm ne), rk, if_neg ne]
    omega
  rw [e2, e1]
/-- a number that falls with each swap -/
def wt : Tx → Nat
  | [] => 0
  | c :: t => c * (t.length + 1) + wt t
theorem wt_app : ∀ p u v : Tx, u.length = v.length → wt u < wt v → wt (p ++ u) < wt (p ++ v)
  | [], _, _, _, h => h
  | c :: p, u, v, hl, h => by
    have ih := wt_app p u v hl h
    rw [List.cons_append, List.cons_append, wt, wt, List.length_append, List.length_append, hl]
    omega
theorem Sw.wt {k : Nat} {p s : Tx} {c e : Nat} (h : Sw k p c e s) : wt (p ++ e :: c :: s) < wt (p ++ c :: e :: s) := by
  refine wt_app p _ _ rfl ?_
  have hd := h.d
  simp only [Sk.wt, List.length_cons]
  have e1 : e * (s.length + 1 + 1) = e * (s.length + 1) + e := by rw [Nat.mul_add, Nat.mul_one]
  have e2 : c * (s.length + 1 + 1) = c * (s.length + 1) + c := by rw [Nat.mul_add, Nat.mul_one]
  omega
theorem wt_le {b : Nat} : ∀ t : Tx, (∀ c ∈ t, c ≤ b) → wt t ≤ b * (t.length * t.length)
  | [], _ => Nat.zero_le _
  | c :: t, h => by
    have ih := wt_le t fun x hx => h x (List.mem_cons_of_mem _ hx)
    have hc := h c (List.mem_cons_self ..)
    rw [wt, List.length_cons]
    have h1 : c * (t.length + 1) ≤ b * (t.length + 1) := Nat.mul_le_mul_right _ hc
    have h2 : b * (t.length * t.length) + b * (t.length + 1) ≤ b * ((t.length + 1) * (t.length + 1)) := by
      rw [← Nat.mul_add]
      refine Nat.mul_le_mul_left _ ?_
      have : (t.length + 1) * (t.length + 1) = t.length * t.length + t.length + (t.length + 1) := by
        rw [Nat.add_mul, Nat.mul_add, Nat.mul_one, Nat.one_mul]
      omega
    omega
/-- the pairs of ranks -/
def prs (t : Tx) : List (Nat × Nat) := (rka [] t).zip (rkb t)
theorem prs_len (t : Tx) : (prs t).length = t.length := by
  rw [prs, List.length_zip, rka_len, rkb_len, Nat.min_self]
theorem prs_at (p : Tx) (c : Nat) (s : Tx) : (prs (p ++ c :: s))[p.length]? = some (rk p.reverse c + 1, rk s c + 1) := by
  rw [prs, List.getElem?_zip_eq_some]
  exact ⟨rka_at p c s, rkb_at p c s⟩
theorem Sw.prs {k : Nat} {p s : Tx} {c e : Nat} (h : Sw k p c e s) : prs (p ++ e :: c :: s) = prs (p ++ c :: e :: s) := by
  rw [Sk.prs, Sk.prs, h.rka, h.rkb]
theorem reduced_of {k : Nat} {t u : Tx} (h : Reduced k t) (e : prs u = prs t) : Reduced k u := by
  intro p c s hu
  have h1 := prs_at p c s
  rw [← hu, e] at h1
  have hl : t.length = u.length := by rw [← prs_len t, ← e, prs_len]
  have hlt : p.length < t.length := by
    rw [hl, hu, List.length_append, List.length_cons]
    omega
  have h2 := prs_at (t.take p.length) t[p.length] (t.drop (p.length + 1))
  have h3 : t.take p.length ++ t[p.length] :: t.drop (p.length + 1) = t := by
    rw [← List.drop_eq_getElem_cons hlt, List.take_append_drop]
  have h4 : (t.take p.length).length = p.length := by rw [List.length_take]; omega
  rw [h3, h4, h1] at h2
  have h5 := Option.some.inj h2
  have h6 := h (t.take p.length) t[p.length] (t.drop (p.length + 1)) h3.symm
  rw [Prod.mk.injEq] at h5
  omega
/-- ordered ahead of a place -/
def OrdTo (k : Nat) (t : Tx) (n : Nat) : Prop := ∀ (p : Tx) (c d : Nat) (s : Tx), p.length < n → t = p ++ c :: d :: s → rk p.reverse c = rk (p ++ [c]).reverse d → rk (d :: s) c = rk s d → rk p.reverse c + rk s d + 2 = k + 1 → c ≤ d
theorem OrdTo.all {k n : Nat} {t : Tx} (h : OrdTo k t n) (hn : t.length ≤ n + 1) : Ordered k t := fun p c d s e => h p c d s (by
  rw [e, List.length_append, List.length_cons, List.length_cons] at hn
  omega) e
theorem OrdTo.succ {k : Nat} {p : Tx} {c e : Nat} {s : Tx} (h : OrdTo k (p ++ c :: e :: s) p.length) (n : ¬ Sw k p c e s) : OrdTo k (p ++ c :: e :: s) (p.length + 1) := by
  intro p' c' d' s' hl he hx hy hs
  by_cases hlt : p'.length < p.length
  · exact h p' c' d' s' hlt he hx hy hs
  · have hl2 : p.length = p'.length := by omega
    obtain ⟨rfl, e2⟩ := List.append_inj he hl2
    injection e2 with e3 e4
    injection e4 with e5 e6
    subst e3 e5 e6
    refine Nat.le_of_not_lt fun hd => n ⟨?_, hy, hs, hd⟩
    rw [hx, List.reverse_append]
    rfl
/-- behind a swap all stays in order up to the place ahead -/
theorem OrdTo.swap {k : Nat} {p : Tx} {c e : Nat} {s : Tx} (h : OrdTo k (p ++ c :: e :: s) p.length) (w : Sw k p c e s) : OrdTo k (p ++ e :: c :: s) (p.length - 1) := by
  intro p' c' d' s' hl he hx hy hs
  -- p' c' d' lie within p
  have hp : ∃ r, p = p' ++ c' :: d' :: r := by
    have h1 : p'.length + 2 ≤ p.length := by omega
    have h2 : p = (p ++ e :: c :: s).take p.length := by simp
    rw [he] at h2
    refine ⟨s'.take (p.length - (p' ++ [c', d']).length), ?_⟩
    have h3 : (p' ++ c' :: d' :: s') = (p' ++ [c', d']) ++ s' := by simp
    rw [h3, List.take_append, List.take_of_length_le (by simp; omega)] at h2
    exact h2.trans (by simp only [List.append_assoc, List.cons_append, List.nil_append])
  obtain ⟨r, rfl⟩ := hp
  have e1 : s' = r ++ e :: c :: s := by
    have : p' ++ c' :: d' :: (r ++ e :: c :: s) = p' ++ c' :: d' :: s' := by
      rw [← he]
      simp
    have := List.append_cancel_left this
    injection this with _ this
    injection this with _ this
    exact this.symm
  subst e1
  have ne : c ≠ e := by have := w.d; omega
  have cg : ∀ z, rk (r ++ e :: c :: s) z = rk (r ++ c :: e :: s) z := rk_congr r fun z => (rk_swap (r := s) ne w.yc z).symm
  refine h p' c' d' (r ++ c :: e :: s) (by simp) (by simp) hx ?_ (by rw [← cg d']; exact hs)
  rw [← cg d', ← hy]
  exact (rk_congr [d'] cg c').symm
/-- what the least form is known by -/
structure IsForm (k : Nat) (t l : Tx) : Prop where
  al : Alike k t l
  red : Reduced k l
  ord : Ordered k l
  len : l.length ≤ t.length
  mem : ∀ c ∈ l, c ∈ t
theorem IsForm.eq_iff {k : Nat} {t l u m : Tx} (h : IsForm k t l) (g : IsForm k u m) : l = m ↔ Alike k t u := by
  constructor
  · intro e
    subst e
    exact h.al.trans g.al.symm
  · intro a
    exact only ((h.al.symm.trans a).trans g.al) h.red g.red h.ord g.ord
end Sk
end
section
set_option Elab.async false
set_option linter.all false
set_option maxRecDepth 100000
set_option maxHeartbeats 4000000
namespace Sk
open PySem PySem.Spec PyProof.Rows L2 SX C8
/-! dicts told by their keys -/
def dk {α : Type} (κ : α → Key) (ks : List α) (f : α → V) : List (Key × V) := ks.map fun a => (κ a, f a)
def ins {α : Type} [DecidableEq α] (ks : List α) (a : α) : List α := if a ∈ ks then ks else ks ++ [a]
section
variable {α : Type} [DecidableEq α] {κ : α → Key}
theorem val_dk (inj : ∀ a b, κ a = κ b → a = b) (a : α) (f : α → V) : ∀ ks : List α, valV (dk κ ks f) (κ a) = if a ∈ ks then some (f a) else none
  | [] => by simp [dk, valV]
  | b :: r => by
    by_cases e : b = a
    · subst e
      rw [if_pos (List.mem_cons_self ..)]
      exact valV_pos (p := (κ b, f b)) rfl
    · have h := val_dk inj a f r
      have e2 : ¬ (κ b, f b).1 = κ a := fun z => e (inj _ _ z)
      show valV ((κ b, f b) :: dk κ r f) (κ a) = _
      rw [valV_neg e2, h]
      by_cases m : a ∈ r
      · rw [if_pos m, if_pos (List.mem_cons_of_mem _ m)]
      · rw [if_neg m, if_neg]
        intro z
        rcases List.mem_cons.mp z with z | z
        · exact e z.symm
        · exact m z
theorem dk_congr {ks : List α} {f g : α → V} (h : ∀ a ∈ ks, f a = g a) : dk κ ks f = dk κ ks g := List.map_congr_left fun a ha => by rw [h a ha]
theorem put_dk (inj : ∀ a b, κ a = κ b → a = b) (ks : List α) (a : α) (f : α → V) (v : V) : putK (dk κ ks f) (κ a) v = dk κ (ins ks a) (fun z => if z = a then v else f z) := by
  unfold ins
  by_cases m : a ∈ ks
  · rw [if_pos m]
    unfold putK
    rw [if_pos]
    · unfold dk
      rw [List.map_map]
      refine List.map_congr_left fun b hb => ?_
      by_cases e : b = a
      · subst e
        simp
      · have : ¬ κ b = κ a := fun z => e (inj _ _ z)
        simp [this, e]
    · rw [valV_any, val_dk inj, if_pos m]
      rfl
  · rw [if_neg m, putK_new v (by rw [val_dk inj, if_neg m])]
    unfold dk
    rw [List.map_append]
    refine congr (congrArg _ (List.map_congr_left fun b hb => ?_)) ?_
    · have : b ≠ a := fun z => m (z ▸ hb)
      show (κ b, f b) = (κ b, if b = a then v else f b)
      rw [if_neg this]
    · simp
theorem ins_nodup {ks : List α} {a : α} (h : ks.Nodup) : (ins ks a).Nodup := by
  unfold ins
  split
  · exact h
  · rename_i m
    rw [List.nodup_append]
    refine ⟨h, by simp, fun x hx y hy => ?_⟩
    have : y = a := by simpa using hy
    subst this
    intro e
    exact m (e ▸ hx)
theorem ins_mem {ks : List α} {a b : α} : b ∈ ins ks a ↔ b ∈ ks ∨ b = a := by
  unfold ins
  split
  · rename_i m
    constructor
    · exact .inl
    · rintro (h | h)
      · exact h
      · exact h ▸ m
  · simp
theorem ins_len {ks : List α} {a : α} : (ins ks a).length ≤ ks.length + 1 := by
  unfold ins
  split
  · omega
  · rw [List.length_append]
    exact Nat.le_refl _
theorem dk_len {ks : List α} {f : α → V} : (dk κ ks f).length = ks.length := List.length_map ..
theorem ins_take {ks : List α} (h : ks.Nodup) {i : Nat} {a : α} (e : ks[i]? = some a) : ins (ks.take i) a = ks.take (i + 1) := by
  have hn : a ∉ ks.take i := by
    intro m
    obtain ⟨j, hj, ej⟩ := List.mem_iff_getElem.mp m
    rw [List.length_take] at hj
    rw [List.getElem_take] at ej
    obtain ⟨hi, ei⟩ := List.getElem?_eq_some_iff.mp e
    have := (List.getElem_inj (h₀ := by omega) (h₁ := hi) h).mp (ej.trans ei.symm)
    omega
  unfold ins
  rw [if_neg hn, List.take_add_one, e]
  rfl
/-- {k: e for k in d}: a new dict of the same keys -/
theorem comp_dict (inj : ∀ a b, κ a = κ b → a = b) {σ : L2.St} {H : Hp} {i j : Nat} {vs : List Nat} {te : TE} {d : Addr} {ks : List α} {f g : α → V} {Q : VK}
    (hσ : σ[i]? = some (some (.ref d))) (hd : H d = some (.dK (dk κ ks f))) (nd : ks.Nodup) (hk : ks.length ≤ 1000) (hw : ∀ x, wipe ((wipe σ vs).set j (some x)) vs = wipe σ vs) (hj : j < σ.length)
    (he : ∀ (od : Obj) (a : α) (n : Nat) H2, ks[n]? = some a → Same (upd H d (.frz od (.dK (dk κ ks f)))) H2 → ∀ Q2 : VK, (∀ H3, Same H2 H3 → Q2 (g a) H3) → te ((wipe σ vs).set j (some (kV (κ a)))) H2 Q2)
    (q : ∀ p H', H p = none → Same H H' → H' p = some (.dK (dk κ ks g)) → Q (.ref p) H') :
    tLockE (tDc (iKeys (tVar i)) (gName j) tYes (tVar j) te vs) σ H Q := by
  refine ⟨d, _, hd, trivial, fun od => ?_⟩
  refine ⟨.ref d, hσ, d, od, rfl, .inl ⟨_, upd_same, fun D hD => ?_⟩⟩
  have nDd : D ≠ d := fun z => by
    rw [z, upd_same] at hD
    cases hD
  have hD0 : H D = none := by rwa [upd_ne nDd] at hD
  refine it_go (walk_keys (d := d) (o := od) (kvs := dk κ ks f)) (fun n H2 => Same (upd H d (.frz od (.dK (dk κ ks f)))) H2 ∧ H2 D = some (.dK (dk κ (ks.take n) g))) ⟨sm_new hD _, upd_same⟩ (fun n H2 _ p => p.1 _ _ upd_same)
    (fun n x H2 H3 hn p y => ?_) (fun H2 p => ?_)
  · obtain ⟨rfl, k, v, hkv, rfl⟩ := y
    obtain ⟨p1, p2⟩ := p
    rw [dk_len] at hn
    have ha : ks[n]? = some ks[n] := List.getElem?_eq_getElem hn
    have hkv2 : (dk κ ks f)[n]? = some (κ ks[n], f ks[n]) := by
      unfold dk
      rw [List.getElem?_map, ha]
      rfl
    rw [hkv2] at hkv
    obtain ⟨rfl, rfl⟩ := Prod.mk.inj (Option.some.inj hkv)
    refine ⟨hw _, ?_⟩
    have hlen : j < (wipe σ vs).length := by rw [wipe_length]; exact hj
    refine ⟨kV (κ ks[n]), by rw [List.getElem?_set_self hlen], ?_⟩
    refine he od ks[n] n H3 ha p1 _ fun H4 s4 => ⟨dk κ (ks.take n) g, κ ks[n], rfl, s4 _ _ p2, ?_, (p1.trans s4).mut hD _, ?_⟩
    · rw [dk_len, List.length_take]
      exact small1000 (by omega)
    · rw [upd_same, put_dk inj, ins_take nd ha]
      refine congrArg (fun z => some (HO.dK z)) (dk_congr fun b hb => ?_)
      by_cases e : b = ks[n]
      · rw [if_pos e, e]
      · rw [if_neg e]
  · obtain ⟨p1, p2⟩ := p
    refine ⟨p1 _ _ upd_same, q D _ hD0 (fun b o hb => ?_) ?_⟩
    · by_cases e : b = d
      · subst e
        rw [upd_same, ← hb, hd]
      · rw [upd_ne e]
        exact p1 b o (by rw [upd_ne e]; exact hb)
    · rw [upd_ne nDd, p2, dk_len, List.take_of_length_le (Nat.le_refl _)]
end
/-- keys that are one letter -/
def k1 (c : Nat) : Key := .inr (S [c])
theorem k1_inj (a b : Nat) (h : k1 a = k1 b) : a = b := by
  have h1 : S [a] = S [b] := Sum.inr.inj h
  have h2 : [a] = [b] := S_inj h1
  injection h2
/-- the dict of least ranks behind a read text -/
def Rks (ks r : List Nat) : Prop := ks.Nodup ∧ ∀ c, c ∈ ks ↔ c ∈ r
abbrev rkV (r : Tx) (c : Nat) : V := .int ((rk r c : Nat) : Int)
theorem rk_notin : ∀ (r : Tx) (c : Nat), c ∉ r → rk r c = 0
  | [], _, _ => rfl
  | d :: r, c, h => by
    have h1 : c ≠ d := fun e => h (e ▸ List.mem_cons_self ..)
    have h2 := rk_notin r c fun m => h (List.mem_cons_of_mem _ m)
    rw [rk, if_neg h1, h2]
    exact Nat.zero_min _
theorem Rks.get {ks r : List Nat} (h : Rks ks r) (c : Nat) : (valV (dk k1 ks (rkV r)) (k1 c)).getD (.int 0) = rkV r c := by
  rw [val_dk k1_inj]
  by_cases m : c ∈ ks
  · rw [if_pos m]
    rfl
  · rw [if_neg m]
    have := rk_notin r c fun z => m ((h.2 c).mpr z)
    show V.int 0 = V.int ((rk r c : Nat) : Int)
    rw [this]
    rfl
theorem nodup_len : ∀ (ks r : List Nat), ks.Nodup → (∀ c ∈ ks, c ∈ r) → ks.length ≤ r.length
  | [], _, _, _ => Nat.zero_le _
  | k :: ks, r, h, m => by
    rw [List.nodup_cons] at h
    have hk := m k (List.mem_cons_self ..)
    have h2 := nodup_len ks (r.erase k) h.2 fun c hc => by
      have : c ≠ k := fun e => h.1 (e ▸ hc)
      exact (List.mem_erase_of_ne this).mpr (m c (List.mem_cons_of_mem _ hc))
    rw [List.length_erase_of_mem hk] at h2
    have : 0 < r.length := List.length_pos_of_mem hk
    rw [List.length_cons]
    omega
theorem Rks.len {ks r : List Nat} (h : Rks ks r) : ks.length ≤ r.length := nodup_len ks r h.1 fun c hc => (h.2 c).mp hc
end Sk
end
section
set_option Elab.async false
set_option linter.all false
set_option maxRecDepth 100000
set_option maxHeartbeats 4000000
namespace Sk
open PySem PySem.Spec PyProof.Rows L2 SX C8
abbrev nV (l : List Nat) : List V := l.map fun n => V.int ((n : Nat) : Int)
theorem nV_snoc (l : List Nat) (n : Nat) : nV (l ++ [n]) = nV l ++ [.int ((n : Nat) : Int)] := by simp [nV]
/-- how the dict goes on by a letter -/
theorem rk_next {r : Tx} {x c : Nat} : (if c = x then ((rk r x : Nat) : Int) + 1 else if ((rk r x : Nat) : Int) + 1 < ((rk r c : Nat) : Int) then ((rk r x : Nat) : Int) + 1 else ((rk r c : Nat) : Int)) = ((rk (x :: r) c : Nat) : Int) := by
  rw [rk]
  by_cases e : c = x
  · subst e
    rw [if_pos rfl, if_pos rfl]
    omega
  · rw [if_neg e, if_neg e]
    split <;> omega
theorem Rks.next {ks r : List Nat} (h : Rks ks r) (x : Nat) : Rks (ins ks x) (x :: r) := by
  refine ⟨ins_nodup h.1, fun c => ?_⟩
  rw [ins_mem, h.2 c, List.mem_cons]
  exact Or.comm
section
variable {P : Program} {w : World} {K : PySem.W.Frag} {mg : Str → Option Value} {base : Heap}
theorem scRanksAhead : FnScope ["text", "least", "found", "letter", "rank", "other"] ["text"] (defScope sRanksAhead) := fnScope_by (by decide +kernel)
def spRanksAhead : Sp := fun vs H Q _ => ∃ (t : Tx), vs = [tV t] ∧ t.length ≤ 300 ∧ RL (nV (rka [] t)) H Q
theorem c_ranks_ahead (C : Ctx K mg) : Cal P w K mg base 1 "ranks_ahead" spRanksAhead [] := by
  refine (fRanksAhead C).cal scRanksAhead (fun _ _ _ _ _ _ us hl => match us, hl with | [_], _ => rfl) (fun vs H Q E h => ?_) (fun cdv A outer s H vs Q E hr h => ?_)
  · obtain ⟨t, rfl, _⟩ := h
    rfl
  obtain ⟨t, rfl, ht, q⟩ := h
  have hu := hu_of hr
  refine ⟨_, pss_cons (ps_asg (pe_tup (pa_cons pe_dnewK (pa_cons (pe_lst pa_nil) pa_nil))) (pg_tup (by rfl) (pgs_cons (pg_name (i := 1) scRanksAhead.nd rfl (Or.inr rfl)) (pgs_cons (pg_name (i := 2) scRanksAhead.nd rfl (Or.inl rfl)) pgs_nil))))
    (pss_cons (ps_for PassesOwn.never rfl (pi_str (pv 0)) (pg_name (i := 3) scRanksAhead.nd rfl (Or.inl rfl))
      (pss_cons (ps_set (i := 4) scRanksAhead.nd rfl (Or.inr rfl) (pe_op op_add (pe_dget2 hu (pv 1) (pv 3) pe_int ⟨rfl, rfl, rfl, rfl⟩) pe_int))
      (pss_cons (ps_set (i := 1) scRanksAhead.nd rfl (Or.inr rfl) (pe_lock (pe_dc (own := [("other", 5)]) (g := gName 5) (by rfl) scRanksAhead.nd (pi_keys (pv 1))
          (blkOk_by (own := [("other", 5)]) (N := ["text", "least", "found", "letter", "rank", "other"]) (sc := defScope sRanksAhead) (by decide +kernel))
          (fun _ _ _ _ _ => pg_name (i := 5) scRanksAhead.nd rfl (Or.inl rfl)) (fun _ _ _ _ _ => pts_nil) (fun _ _ _ _ _ => pv 5)
          (fun _ _ _ _ _ => pe_callB (call_min2 rfl) (by rfl) (b_min C) boot_min (pa_cons (pe_dget hu (pv 1) (pv 5) (fun _ _ => rfl)) (pa_cons (pv 4) pa_nil))))))
      (pss_cons (ps_dput hu (pv 1) (pv 3) (pv 4) rfl)
      (pss_one (ps_expr (pe_bm PySem.F.plainAttrs_list PySem.F.slot_list_append PySem.F.type_list_append mt_append (pv 2) (pa_cons (pv 4) pa_nil))))))))
    (pss_one (ps_ret (pv 2)))), ?_⟩
  intro d0 hd0
  refine ⟨Nat.zero_le _, fun a ha => ?_⟩
  refine ⟨by show 2 ≤ sizeLine; decide, fun tp htp => ?_⟩
  have nad : a ≠ d0 := fun e => by
    rw [e, upd_same] at ha
    cases ha
  have ha0 : H a = none := by rwa [upd_ne nad] at ha
  have s1 : Same H (upd (upd (upd H d0 (.dK [])) a (.lst [])) tp (.tup [.ref d0, .ref a])) := ((sm_new hd0 _).trans (sm_new ha _)).trans (sm_new htp _)
  have ntd : tp ≠ d0 := fun e => by
    rw [e, upd_ne nad.symm, upd_same] at htp
    cases htp
  have nta : tp ≠ a := fun e => by
    rw [e, upd_same] at htp
    cases htp
  refine ⟨tp, [.ref d0, .ref a], rfl, st upd_same, rfl, .ref d0, [.ref a], rfl, .ref a, [], rfl, rfl, ?_⟩
  refine ⟨tV t, rfl, S t, rfl, for_go walk_str (fun i σ H' => ∃ (d : Addr) (v3 v4 : Option V) (ks : List Nat), σ = [some (tV t), some (.ref d), some (.ref a), v3, v4, none] ∧ Same H H' ∧ H d = none ∧ d ≠ a ∧ Rks ks (t.take i).reverse ∧
      H' d = some (.dK (dk k1 ks (rkV (t.take i).reverse))) ∧ H' a = some (.lst (nV (rka [] (t.take i)))))
    ⟨d0, none, none, [], rfl, s1, hd0, nad.symm, ⟨List.nodup_nil, fun c => by simp⟩, by rw [upd_ne ntd.symm, upd_ne nad.symm, upd_same]; rfl, by rw [upd_ne nta.symm, upd_same]; rfl⟩ (fun _ _ _ _ _ => trivial) (fun i x σ H1 H2 hi p y => ?_) (fun σ H' p => ?_)⟩
  · obtain ⟨d, v3, v4, ks, rfl, sm, nd, nda, hks, hd, hA⟩ := p
    obtain ⟨rfl, c, hc, rfl⟩ := y
    have htc : t[i]? = some c := by
      have : (S t).cps.toList[i]? = some c := by rw [← hc, Array.getElem?_toList]
      exact this
    have hit : i < t.length := (List.getElem?_eq_some_iff.mp htc).1
    have etk : (t.take (i + 1)).reverse = c :: (t.take i).reverse := by
      rw [List.take_add_one, htc]
      simp
    have hkl : ks.length ≤ 300 := by
      have h1 := hks.len
      rw [List.length_reverse, List.length_take] at h1
      omega
    -- rank = least.get(letter, 0) + 1
    refine ⟨.ref d, rfl, d, rfl, .inl ⟨_, .inl hd⟩, .str (S [c]), rfl, _, DGet.k (k := k1 c) hd, ((rk (t.take i).reverse c : Nat) : Int), 1, hks.get c, rfl, ?_⟩
    -- least = {other: min(least[other], rank) ..}
    refine comp_dict (α := Nat) (κ := k1) k1_inj (g := fun z => .int (if ((rk (t.take i).reverse c : Nat) : Int) + 1 < ((rk (t.take i).reverse z : Nat) : Int) then ((rk (t.take i).reverse c : Nat) : Int) + 1 else ((rk (t.take i).reverse z : Nat) : Int))) rfl hd hks.1 (by omega) (fun _ => rfl) (by show 5 < 6; decide) (fun od z n H3 hz s3 Q2 q2 => ?_) (fun D H3 nD s3 hD => ?_)
    · exact ⟨.ref d, rfl, kV (k1 z), rfl, d, _, rfl, .inl ⟨_, k1 z, .inr ⟨od, s3 _ _ upd_same⟩, rfl, ((val_dk k1_inj z _ ks).trans (if_pos (List.mem_of_getElem? hz))).symm⟩, _, rfl, _, _, rfl, q2 H3 (Same.refl _)⟩
    · -- least[letter] = rank
      have nDa : D ≠ a := fun e => by
        rw [e, hA] at nD
        cases nD
      refine ⟨_, rfl, .ref D, rfl, .str (S [c]), rfl, D, _, rfl, DPut.k (k := k1 c) hD (by rw [dk_len]; exact small1000 (by omega)), ?_⟩
      rw [put_dk k1_inj]
      have hA3 : (upd H3 D (.dK (dk k1 (ins ks c) fun z_1 => if z_1 = c then V.int (((rk (t.take i).reverse c : Nat) : Int) + 1) else V.int (if ((rk (t.take i).reverse c : Nat) : Int) + 1 < ((rk (t.take i).reverse z_1 : Nat) : Int) then ((rk (t.take i).reverse c : Nat) : Int) + 1 else ((rk (t.take i).reverse z_1 : Nat) : Int))))) a = some (.lst (nV (rka [] (t.take i)))) := by
        rw [upd_ne nDa.symm]
        exact s3 _ _ hA
      -- found.append(rank)
      refine ⟨.ref a, rfl, .inl ⟨rfl, _, sq hA3⟩, _, rfl, a, _, _, rfl, rfl, hA3, ?_, ?_⟩
      · rw [List.length_map, rka_len, List.length_take]
        exact small1000 (by omega)
      · refine ⟨D, _, _, ins ks c, rfl, ((sm.trans s3).mut (sm.free nD) _).mut ha0 _, sm.free nD, nDa, ?_, ?_, ?_⟩
        · rw [etk]
          exact hks.next c
        · rw [upd_ne nDa, upd_same, etk]
          refine congrArg (fun z => some (HO.dK z)) (dk_congr fun z hz => ?_)
          show (if z = c then V.int _ else V.int _) = V.int _
          rw [← rk_next]
          split <;> rfl
        · rw [upd_same]
          have e2 : rka [] (t.take (i + 1)) = rka [] (t.take i) ++ [rk (t.take i).reverse c + 1] := by
            rw [List.take_add_one, htc, Option.toList_some, rka_app, List.append_nil]
            rfl
          rw [e2, nV_snoc]
          rfl
  · obtain ⟨d, v3, v4, ks, rfl, sm, nd, nda, hks, hd, hA⟩ := p
    refine ⟨.ref a, rfl, q a H' ha0 sm ?_⟩
    have e : (S t).cps.size = t.length := S_len t
    rw [hA, e, List.take_length]
end
end Sk
end
section
set_option Elab.async false
set_option linter.all false
set_option maxRecDepth 100000
set_option maxHeartbeats 4000000
namespace Sk
open PySem PySem.Spec PyProof.Rows L2 SX C8
theorem get_map {α β : Type} {l : List α} {f : α → β} {i : Nat} {v : β} (h : (l.map f)[i]? = some v) : ∃ m, l[i]? = some m ∧ v = f m := by
  rw [List.getElem?_map] at h
  cases e : l[i]? with
  | none =>
    rw [e] at h
    cases h
  | some m =>
    rw [e] at h
    exact ⟨m, rfl, (Option.some.inj h).symm⟩
/-- a, b = a pair -/
abbrev g2 (K : PySem.W.Frag) (i j : Nat) : TG := gTup K 2 (gCons (gName i) (gCons (gName j) gNil))
/-- tuples of two numbers -/
def PAt (H : Hp) (ts : List Addr) (ps : List (Nat × Nat)) : Prop := ts.length = ps.length ∧ ∀ (i x y : Nat), ps[i]? = some (x, y) → ∃ a, ts[i]? = some a ∧ H a = some (.tup [.int ((x : Nat) : Int), .int ((y : Nat) : Int)])
theorem PAt.same {H H' : Hp} {ts : List Addr} {ps : List (Nat × Nat)} (s : Same H H') (h : PAt H ts ps) : PAt H' ts ps := ⟨h.1, fun i x y e => let ⟨a, h1, h2⟩ := h.2 i x y e; ⟨a, h1, s _ _ h2⟩⟩
theorem PAt.snoc {H : Hp} {ts : List Addr} {ps : List (Nat × Nat)} {a : Addr} {x y : Nat} (h : PAt H ts ps) (e : H a = some (.tup [.int ((x : Nat) : Int), .int ((y : Nat) : Int)])) : PAt H (ts ++ [a]) (ps ++ [(x, y)]) := by
  refine ⟨by rw [List.length_append, List.length_append, h.1]; rfl, fun i u v hi => ?_⟩
  by_cases hlt : i < ps.length
  · rw [List.getElem?_append_left hlt] at hi
    rw [List.getElem?_append_left (by rw [h.1]; exact hlt)]
    exact h.2 i u v hi
  · rw [List.getElem?_append_right (by omega)] at hi
    have e2 : i - ps.length = 0 := by
      have := (List.getElem?_eq_some_iff.mp hi).1
      simp at this
      omega
    rw [e2] at hi
    obtain ⟨rfl, rfl⟩ := Prod.mk.inj (Option.some.inj hi)
    refine ⟨a, ?_, e⟩
    rw [List.getElem?_append_right (by rw [h.1]; omega), h.1, e2]
    rfl
section
variable {P : Program} {w : World} {K : PySem.W.Frag} {mg : Str → Option Value} {base : Heap}
theorem scRanksOf : FnScope ["text", "behind", "one", "other"] ["text"] (defScope sRanksOf) := fnScope_by (by decide +kernel)
def spRanksOf : Sp := fun vs H Q _ => ∃ (t : Tx), vs = [tV t] ∧ t.length ≤ 300 ∧ ∀ (p : Addr) (ts : List Addr) (H' : Hp), H p = none → Same H H' → H' p = some (.lst (ts.map V.ref)) → PAt H' ts (prs t) → Q (.ref p) H'
theorem c_ranks_of (C : Ctx K mg) : Cal P w K mg base 2 "ranks_of" spRanksOf [] := by
  refine (fRanksOf C).cal scRanksOf (fun _ _ _ _ _ _ us hl => match us, hl with | [_], _ => rfl) (fun vs H Q E h => ?_) (fun cdv A outer s H vs Q E hr h => ?_)
  · obtain ⟨t, rfl, _⟩ := h
    rfl
  obtain ⟨t, rfl, ht, q⟩ := h
  refine ⟨_, pss_cons (ps_set (i := 1) scRanksOf.nd rfl (Or.inl rfl) (pe_c (c_ranks_ahead C) hr (by decide) (by rfl) (pa_cons (pe_revS (pv 0)) pa_nil)))
    (pss_cons (ps_expr (pe_bm0 PySem.F.plainAttrs_list PySem.F.slot_list_reverse PySem.F.type_list_reverse mt_reverse (pv 1)))
    (pss_one (ps_ret (pe_lc (own := [("one", 2), ("other", 3)]) (g := g2 K 2 3) (by rfl) scRanksOf.nd (pi_zipS (by rfl) (b_zip C) (pa_cons (pe_c (c_ranks_ahead C) hr (by decide) (by rfl) (pa_cons (pv 0) pa_nil)) (pa_cons (pv 1) pa_nil)))
      (blkOk_by (own := [("one", 2), ("other", 3)]) (N := ["text", "behind", "one", "other"]) (sc := defScope sRanksOf) (by decide +kernel))
      (fun _ _ _ _ _ => pg_tup (by rfl) (pgs_cons (pg_name (i := 2) scRanksOf.nd rfl (Or.inl rfl)) (pgs_cons (pg_name (i := 3) scRanksOf.nd rfl (Or.inl rfl)) pgs_nil)))
      (fun _ _ _ _ _ => pts_nil) (fun _ _ _ _ _ => pe_tup (pa_cons (pv 2) (pa_cons (pv 3) pa_nil))))))), ?_⟩
  refine ⟨tV t, rfl, t, rfl, by omega, t.reverse, rfl, by rw [List.length_reverse]; exact ht, fun b H1 nb s1 hb => ?_⟩
  refine ⟨.ref b, rfl, .inl ⟨rfl, _, sq hb⟩, b, _, rfl, rfl, hb, ?_⟩
  have s2 : Same H (upd H1 b (.lst (nV (rka [] t.reverse)).reverse)) := s1.mut nb _
  refine ⟨tV t, rfl, t, rfl, ht, fun a H2 na s3 ha => ?_⟩
  have hb2 : H2 b = some (.lst (nV (rkb t))) := by
    refine s3 _ _ ?_
    rw [upd_same, ← rkb_rev, nV, nV, List.map_reverse]
  have el : (nV (rka [] t)).length = (nV (rkb t)).length := by rw [List.length_map, List.length_map, rka_len, rkb_len]
  have tl : (nV (rka [] t)).length = t.length := by rw [List.length_map, rka_len]
  refine ⟨.ref b, rfl, a, b, _, _, rfl, sq ha, sq hb2, fun D hD => it_go (walk_zipS el) (fun i H3 => Same H2 H3 ∧ ∃ ts : List Addr, H3 D = some (.lst (ts.map V.ref)) ∧ PAt H3 ts ((prs t).take i)) ⟨sm_new hD _, [], upd_same, rfl, fun i x y e => by simp at e⟩
    (fun i H3 _ p => ⟨sq (p.1 _ _ ha), sq (p.1 _ _ hb2)⟩) (fun i x H3 H4 hi p y => ?_) (fun H3 p => ?_)⟩
  · obtain ⟨T, u, v, rfl, nT, rfl, hu, hv⟩ := y
    obtain ⟨p1, ts, p2, p3⟩ := p
    rw [tl] at hi
    obtain ⟨m, hm, rfl⟩ := get_map hu
    obtain ⟨n, hn, rfl⟩ := get_map hv
    have hpr : (prs t)[i]? = some (m, n) := by
      rw [prs, List.getElem?_zip_eq_some]
      exact ⟨hm, hn⟩
    have sT := sm_new nT (.tup [.int ((m : Nat) : Int), .int ((n : Nat) : Int)])
    refine ⟨T, _, rfl, st upd_same, rfl, _, _, rfl, _, [], rfl, rfl, rfl, ?_⟩
    refine ⟨_, rfl, _, rfl, by show 2 ≤ sizeLine; decide, fun e he => ?_⟩
    have se := sm_new he (.tup [.int ((m : Nat) : Int), .int ((n : Nat) : Int)])
    have nDe : D ≠ e := fun z => by
      rw [z] at p2
      have := (sT.trans (Same.refl _)) _ _ p2
      rw [this] at he
      cases he
    have hD0 : H2 D = none := hD
    refine ⟨_, se _ _ (sT _ _ p2), ?_, ((p1.trans sT).trans se).mut hD _, ts ++ [e], ?_, ?_⟩
    · rw [List.length_map, p3.1, List.length_take]
      exact small1000 (by omega)
    · rw [upd_same, List.map_append]
      rfl
    · rw [List.take_add_one, hpr]
      refine PAt.snoc ?_ ?_
      · refine ⟨p3.1, fun j x y hj => ?_⟩
        obtain ⟨b', h1, h2⟩ := p3.2 j x y hj
        refine ⟨b', h1, ?_⟩
        have nb' : b' ≠ D := fun z => by
          rw [z, p2] at h2
          cases h2
        rw [upd_ne nb']
        exact se _ _ (sT _ _ h2)
      · rw [upd_ne nDe.symm]
        exact upd_same
  · obtain ⟨p1, ts, p2, p3⟩ := p
    refine q D ts H3 ?_ ((s2.trans s3).trans p1) p2 ?_
    · exact (s2.trans s3).free hD
    · rw [tl, ← prs_len t, List.take_length] at p3
      exact p3
end
end Sk
end
section
set_option autoImplicit false
namespace Sk
/-! one pass of deletions, from the end to the beginning -/
structure TI (d : Nat) (t : Tx) (i : Nat) (fs : List Tx) (kp : Tx) : Prop where
  sub : ∀ f ∈ fs, f.Sublist t
  al : Alike d t (t.take (t.length - i) ++ kp)
  ks : kp.Sublist (t.drop (t.length - i))
  len : kp.length + (t.length - i) + fs.length = t.length
  last : (fs = [] ∧ kp = t.drop (t.length - i) ∧ ∀ (p : Tx) (c : Nat) (s : Tx), t = p ++ c :: s → t.length - i ≤ p.length → rk p.reverse c + rk s c + 2 ≤ d + 1) ∨ fs.getLast? = some (t.take (t.length - i) ++ kp)
structure Tk (d : Nat) (t : Tx) (fs : List Tx) : Prop where
  sub : ∀ f ∈ fs, f.Sublist t
  len : fs.length ≤ t.length
  last : (fs = [] ∧ Reduced d t) ∨ ∃ l, fs.getLast? = some l ∧ Alike d t l ∧ l.length + fs.length = t.length
theorem TI.zero (d : Nat) (t : Tx) : TI d t 0 [] [] := by
  refine ⟨fun f h => (by cases h), ?_, ?_, ?_, .inl ⟨rfl, ?_, fun p c s e h => ?_⟩⟩
  · rw [Nat.sub_zero, List.take_length, List.append_nil]
    exact Alike.refl d t
  · exact List.nil_sublist _
  · simp
  · rw [Nat.sub_zero, List.drop_length]
  · rw [e, List.length_append, List.length_cons] at h
    omega
section
variable {d : Nat} {t : Tx} {i : Nat} {fs : List Tx} {kp : Tx} {k c : Nat}
theorem take_at (hc : t[k]? = some c) : t.take (k + 1) = t.take k ++ [c] := by
  rw [List.take_add_one, hc]
  rfl
theorem drop_at (hc : t[k]? = some c) : t.drop k = c :: t.drop (k + 1) := by
  obtain ⟨h, e⟩ := List.getElem?_eq_some_iff.mp hc
  rw [List.drop_eq_getElem_cons h, e]
theorem TI.out (h : TI d t i fs kp) (hk : t.length - i = k + 1) (hc : t[k]? = some c) (hr : d + 1 < rk (t.take k).reverse c + rk kp c + 2) : TI d t (i + 1) (fs ++ [t.take k ++ kp]) kp := by
  have hk2 : t.length - (i + 1) = k := by omega
  have e1 := take_at hc
  have hs : (t.take k ++ kp).Sublist t := by
    have h1 := h.ks
    rw [hk] at h1
    have h2 : (t.take k ++ kp).Sublist (t.take k ++ t.drop k) := List.Sublist.append (List.Sublist.refl _) (h1.trans (by
      rw [drop_at hc]
      exact List.sublist_cons_self _ _))
    rwa [List.take_append_drop] at h2
  have al := h.al
  rw [hk, e1, List.append_assoc, List.singleton_append] at al
  have al2 := al.trans (del_alike hr)
  refine ⟨fun f hf => ?_, by rw [hk2]; exact al2, ?_, ?_, .inr ?_⟩
  · rcases List.mem_append.mp hf with hf | hf
    · exact h.sub f hf
    · rw [List.mem_singleton.mp hf]
      exact hs
  · rw [hk2, drop_at hc]
    have h1 := h.ks
    rw [hk] at h1
    exact h1.cons c
  · have h1 := h.len
    rw [hk] at h1
    rw [hk2, List.length_append, List.length_singleton]
    omega
  · rw [hk2, List.getLast?_append]
    rfl
theorem TI.keep (h : TI d t i fs kp) (hk : t.length - i = k + 1) (hc : t[k]? = some c) (hr : ¬ d + 1 < rk (t.take k).reverse c + rk kp c + 2) : TI d t (i + 1) fs (c :: kp) := by
  have hk2 : t.length - (i + 1) = k := by omega
  have e1 := take_at hc
  have al := h.al
  rw [hk, e1, List.append_assoc, List.singleton_append] at al
  refine ⟨h.sub, by rw [hk2]; exact al, ?_, ?_, ?_⟩
  · rw [hk2, drop_at hc]
    have h1 := h.ks
    rw [hk] at h1
    exact h1.cons_cons c
  · have h1 := h.len
    rw [hk] at h1
    rw [hk2, List.length_cons]
    omega
  · rcases h.last with ⟨h1, h2, h3⟩ | h1
    · refine .inl ⟨h1, ?_, fun p c' s e hp => ?_⟩
      · rw [hk2, drop_at hc, h2, hk]
      · by_cases hlt : k + 1 ≤ p.length
        · exact h3 p c' s e (by omega)
        · have hpk : p.length = k := by omega
          have hp1 : t.take k = p := by
            rw [e, ← hpk]
            exact List.take_left ..
          have hc1 : c' = c := by
            rw [e, ← hpk, List.getElem?_append_right (Nat.le_refl _)] at hc
            simpa using hc
          have hs1 : s = kp := by
            rw [h2, hk, e, ← hpk]
            simp
          rw [hp1, ← hc1, ← hs1] at hr
          omega
    · refine .inr ?_
      rw [h1, hk, hk2, e1, List.append_assoc, List.singleton_append]
theorem TI.done (h : TI d t i fs kp) (hi : t.length - i = 0) : Tk d t fs := by
  refine ⟨h.sub, ?_, ?_⟩
  · have := h.len
    omega
  · rcases h.last with ⟨h1, h2, h3⟩ | h1
    · exact .inl ⟨h1, fun p c s e => h3 p c s e (by omega)⟩
    · refine .inr ⟨kp, ?_, ?_, ?_⟩
      · rw [h1, hi]
        rfl
      · have := h.al
        rw [hi] at this
        exact this
      · have := h.len
        omega
end
/-- all passes -/
structure Td (d : Nat) (t : Tx) (fs : List Tx) (l : Tx) : Prop where
  last : fs.getLast? = some l
  sub : ∀ f ∈ fs, f.Sublist t
  al : Alike d t l
  len : l.length + fs.length = t.length + 1
theorem Td.start (d : Nat) (t : Tx) : Td d t [t] t := ⟨rfl, fun f h => by rw [List.mem_singleton.mp h]; exact List.Sublist.refl t, Alike.refl d t, rfl⟩
theorem Td.next {d : Nat} {t : Tx} {fs gs : List Tx} {l : Tx} (h : Td d t fs l) (g : Tk d l gs) (ne : gs ≠ []) : ∃ m, Td d t (fs ++ gs) m ∧ m.length < l.length := by
  rcases g.last with ⟨e, _⟩ | ⟨m, h1, h2, h3⟩
  · exact absurd e ne
  · have hp : 0 < gs.length := List.length_pos_iff.mpr ne
    have hl : l.Sublist t := h.sub l (List.mem_of_getLast? h.last)
    refine ⟨m, ⟨?_, fun f hf => ?_, h.al.trans h2, ?_⟩, by omega⟩
    · rw [List.getLast?_append, h1]
      rfl
    · rcases List.mem_append.mp hf with hf | hf
      · exact h.sub f hf
      · exact (g.sub f hf).trans hl
    · rw [List.length_append]
      have := h.len
      omega
theorem Td.end {d : Nat} {t l : Tx} (g : Tk d l []) : Reduced d l := by
  rcases g.last with ⟨_, h⟩ | ⟨m, h1, _⟩
  · exact h
  · cases h1
end Sk
end
section
set_option Elab.async false
set_option linter.all false
set_option maxRecDepth 100000
set_option maxHeartbeats 4000000
namespace Sk
open PySem PySem.Spec PyProof.Rows L2 SX C8
theorem cut_to (t : Tx) {k : Nat} (h : k ≤ t.length) : cutS (S t) none (some ((k : Nat) : Int)) = S (t.take k) := by
  unfold cutS
  rw [HT.sIx_none, HT.sIx_nat, S_len, List.drop_zero, Nat.sub_zero, Nat.min_eq_left h]
theorem cut_from (t : Tx) {k : Nat} (h : k ≤ t.length) : cutS (S t) (some ((k : Nat) : Int)) none = S (t.drop k) := by
  unfold cutS
  rw [HT.sIx_none, HT.sIx_nat, S_len, Nat.min_eq_left h, List.take_of_length_le]
  rw [List.length_drop]
  exact Nat.le_refl _
def Abc (t : Tx) : Prop := ∀ c ∈ t, 97 ≤ c ∧ c ≤ 99
theorem Abc.sub {t u : Tx} (h : Abc t) (s : u.Sublist t) : Abc u := fun c hc => h c (s.subset hc)
theorem Abc.lo {t : Tx} (h : Abc t) : Lo t := fun c hc => ⟨(h c hc).1, by have := (h c hc).2; omega⟩
theorem rka_get {t : Tx} {k c : Nat} (h : t[k]? = some c) : (rka [] t)[k]? = some (rk (t.take k).reverse c + 1) := by
  have h1 := rka_at (t.take k) c (t.drop (k + 1))
  have h2 : (t.take k).length = k := by
    rw [List.length_take]
    have := (List.getElem?_eq_some_iff.mp h).1
    omega
  rw [← drop_at h, List.take_append_drop, h2] at h1
  exact h1
theorem get_nV {l : List Nat} {k m : Nat} (h : l[k]? = some m) : (nV l)[k]? = some (V.int ((m : Nat) : Int)) := by
  rw [nV, List.getElem?_map, h]
  rfl
section
variable {P : Program} {w : World} {K : PySem.W.Frag} {mg : Str → Option Value} {base : Heap}
theorem scTakenOnce : FnScope ["depth", "start", "found", "kept", "least", "ahead", "at", "rank", "other"] ["depth", "start"] (defScope sTakenOnce) := fnScope_by (by decide +kernel)
def spTakenOnce : Sp := fun vs H Q _ => ∃ (d : Nat) (t : Tx), vs = [.int ((d : Nat) : Int), tV t] ∧ t.length ≤ 256 ∧ ∀ (p : Addr) (fs : List Tx) (H' : Hp), H p = none → Same H H' → H' p = some (.lst (fs.map tV)) → Tk d t fs → Q (.ref p) H'
theorem c_taken_once (C : Ctx K mg) : Cal P w K mg base 2 "taken_once" spTakenOnce [] := by
  refine (fTakenOnce C).cal scTakenOnce (fun _ _ _ _ _ _ us hl => match us, hl with | [_, _], _ => rfl) (fun vs H Q E h => ?_) (fun cdv A outer s H vs Q E hr h => ?_)
  · obtain ⟨d, t, rfl, _⟩ := h
    rfl
  obtain ⟨d, t, rfl, ht, q⟩ := h
  have hu := hu_of hr
  have nd := scTakenOnce.nd
  refine ⟨_, pss_cons (ps_asg (pe_tup (pa_cons (pe_lst pa_nil) (pa_cons pe_str (pa_cons pe_dnewK (pa_cons (pe_c (c_ranks_ahead C) hr (by decide) (by rfl) (pa_cons (pv 1) pa_nil)) pa_nil)))))
      (pg_tup (by rfl) (pgs_cons (pg_name (i := 2) nd rfl (Or.inl rfl)) (pgs_cons (pg_name (i := 3) nd rfl (Or.inl rfl)) (pgs_cons (pg_name (i := 4) nd rfl (Or.inr rfl)) (pgs_cons (pg_name (i := 5) nd rfl (Or.inl rfl)) pgs_nil))))))
    (pss_cons (ps_for PassesOwn.never rfl (pi_range3 rfl (b_range C) (pa_cons (pe_op op_sub (pe_callB call_len_str (by rfl) (b_len C) boot_len (pa_cons (pv 1) pa_nil)) pe_int) (pa_cons (pe_un un_neg pe_int) (pa_cons (pe_un un_neg pe_int) pa_nil)))) (pg_name (i := 6) nd rfl (Or.inl rfl))
      (pss_cons (ps_set (i := 7) nd rfl (Or.inr rfl) (pe_op op_add (pe_dget2 hu (pv 4) (pe_ix ix_str (pv 1) (pv 6) (fun _ _ => rfl)) pe_int ⟨rfl, rfl, rfl, rfl⟩) pe_int))
      (pss_one (ps_if (pt_cmpR op_gt (pe_op op_add (pe_ix ix_list (pv 5) (pv 6) (fun _ _ => rfl)) (pv 7)) (pe_op op_add (pv 0) pe_int) (nomark _))
        (pss_one (ps_expr (pe_bm PySem.F.plainAttrs_list PySem.F.slot_list_append PySem.F.type_list_append mt_append (pv 2) (pa_cons (pe_op op_add_str (pe_slice sl_str (pv 1) po_none (po_some (pv 6))) (pv 3)) pa_nil))))
        (pss_cons (ps_set (i := 3) nd rfl (Or.inl rfl) (pe_op op_add_str (pe_ix ix_str (pv 1) (pv 6) (fun _ _ => rfl)) (pv 3)))
        (pss_cons (ps_set (i := 4) nd rfl (Or.inr rfl) (pe_lock (pe_dc (own := [("other", 8)]) (g := gName 8) (by rfl) nd (pi_keys (pv 4))
          (blkOk_by (own := [("other", 8)]) (N := ["depth", "start", "found", "kept", "least", "ahead", "at", "rank", "other"]) (sc := defScope sTakenOnce) (by decide +kernel))
          (fun _ _ _ _ _ => pg_name (i := 8) nd rfl (Or.inl rfl)) (fun _ _ _ _ _ => pts_nil) (fun _ _ _ _ _ => pv 8)
          (fun _ _ _ _ _ => pe_callB (call_min2 rfl) (by rfl) (b_min C) boot_min (pa_cons (pe_dget hu (pv 4) (pv 8) (fun _ _ => rfl)) (pa_cons (pv 7) pa_nil))))))
        (pss_one (ps_dput hu (pv 4) (pe_ix ix_str (pv 1) (pv 6) (fun _ _ => rfl)) (pv 7) rfl))))))))
    (pss_one (ps_ret (pv 2)))), ?_⟩
  refine ⟨Nat.zero_le _, fun a ha => ?_⟩
  intro d0 hd0
  refine ⟨tV t, rfl, t, rfl, by omega, fun ah H1 nah s1 hah => ?_⟩
  refine ⟨by show 4 ≤ sizeLine; decide, fun tp htp => ?_⟩
  have nda : d0 ≠ a := fun e => by
    rw [e, upd_same] at hd0
    cases hd0
  have nha : ah ≠ a := fun e => by
    rw [e, upd_ne nda.symm, upd_same] at nah
    cases nah
  have hd00 : H d0 = none := by rwa [upd_ne nda] at hd0
  have s0 : Same H (upd (upd H a (.lst [])) d0 (.dK [])) := (sm_new ha _).trans (sm_new hd0 _)
  have hah0 : H ah = none := s0.free nah
  have sT := sm_new htp (.tup [.ref a, .str "", .ref d0, .ref ah])
  refine ⟨tp, _, rfl, st upd_same, rfl, .ref a, _, rfl, .str "", _, rfl, .ref d0, _, rfl, .ref ah, [], rfl, rfl, ?_⟩
  refine ⟨tV t, rfl, S t, rfl, smallT (by omega), _, _, rfl, rfl, 1, rfl, 1, rfl, _, _, -1, _, rfl, RgC.neg (by rw [S_len]; omega) (by rw [S_len]; omega) (by decide) (by decide), for_go walk_rangeC (fun i σ H' => ∃ (d4 : Addr) (kp : Tx) (fs : List Tx) (ks : List Nat) (v6 v7 : Option V),
      σ = [some (.int ((d : Nat) : Int)), some (tV t), some (.ref a), some (tV kp), some (.ref d4), some (.ref ah), v6, v7, none] ∧ Same H H' ∧ H d4 = none ∧ TI d t i fs kp ∧ Rks ks kp ∧
      H' d4 = some (.dK (dk k1 ks (rkV kp))) ∧ H' a = some (.lst (fs.map tV)) ∧ H' ah = some (.lst (nV (rka [] t))))
    ⟨d0, [], [], [], none, none, rfl, (s0.trans s1).trans sT, hd00, TI.zero d t, ⟨List.nodup_nil, fun c => Iff.rfl⟩, sT _ _ (s1 _ _ upd_same), sT _ _ (s1 _ _ (by rw [upd_ne nda.symm]; exact upd_same)), sT _ _ hah⟩ (fun _ _ _ _ _ => trivial) (fun i x σ H2 H3 hi p y => ?_) (fun σ H' p => ?_)⟩
  · obtain ⟨d4, kp, fs, ks, v6, v7, rfl, sm, nd4, ti, hks, hd, hA, hAh⟩ := p
    obtain ⟨rfl, hx⟩ := y
    rw [S_len] at hi hx
    have hk : t.length - i = (t.length - 1 - i) + 1 := by omega
    generalize hkk : t.length - 1 - i = k at hk
    have ev : ((t.length : Nat) : Int) - 1 + ((i : Nat) : Int) * -1 = ((k : Nat) : Int) := by omega
    replace hx : x = V.int ((k : Nat) : Int) := hx.trans (congrArg V.int ev)
    subst hx
    have hkl : k < t.length := by omega
    obtain ⟨c, hc⟩ : ∃ c, t[k]? = some c := ⟨t[k], List.getElem?_eq_getElem hkl⟩
    have hc' : (S t).cps.toList[k]? = some c := hc
    have hksl : ks.length ≤ 256 := by
      have h1 := hks.len
      have h2 := ti.len
      omega
    have hkp : kp.length ≤ 256 := by
      have h2 := ti.len
      omega
    have nd4a : d4 ≠ a := ne_of hd hA (by intro z; cases z)
    have nd4h : d4 ≠ ah := ne_of hd hAh (by intro z; cases z)
    -- rank = least.get(start[at], 0) + 1
    refine ⟨.ref d4, rfl, d4, rfl, .inl ⟨_, .inl hd⟩, tV t, rfl, .int ((k : Nat) : Int), rfl, S t, ((k : Nat) : Int), c, rfl, rfl, smallT (by omega), atI_nat hc', _, DGet.k (k := k1 c) hd, ((rk kp c : Nat) : Int), 1, hks.get c, rfl, ?_⟩
    -- if ahead[at] + rank > depth + 1
    refine ⟨.ref ah, rfl, .int ((k : Nat) : Int), rfl, ah, _, ((k : Nat) : Int), _, rfl, rfl, sq hAh, atI_nat (get_nV (rka_get hc)), .int (((rk kp c : Nat) : Int) + 1), rfl, _, _, rfl, rfl, .int ((d : Nat) : Int), rfl, _, _, rfl, rfl, _, _, rfl, rfl, _, rfl, ite2 (fun e => ?_) (fun e => ?_)⟩
    · have e1 := of_decide_eq_true e
      have hr1 : d + 1 < rk (t.take k).reverse c + rk kp c + 2 := by omega
      refine ⟨.ref a, rfl, .inl ⟨rfl, _, sq hA⟩, tV t, rfl, .int ((k : Nat) : Int), rfl, ((k : Nat) : Int), rfl, S t, rfl, smallT (by omega), tV kp, rfl, _, S kp, rfl, rfl, ?_, a, _, _, rfl, rfl, hA, ?_, ?_⟩
      · rw [cut_to t (by omega), S_len, S_len, List.length_take]
        exact small (by omega)
      · rw [List.length_map]
        have := ti.len
        exact small1000 (by omega)
      · refine ⟨d4, kp, fs ++ [t.take k ++ kp], ks, _, _, rfl, sm.mut ha _, nd4, ti.out hk hc hr1, hks, ?_, ?_, ?_⟩
        · rw [upd_ne nd4a]
          exact hd
        · rw [upd_same, cut_to t (by omega), S_cat, List.map_append]
          rfl
        · rw [upd_ne nha]
          exact hAh
    · have e1 : ¬ ((d : Nat) : Int) + 1 < ((rk (t.take k).reverse c + 1 : Nat) : Int) + (((rk kp c : Nat) : Int) + 1) := fun z => e (decide_eq_true z)
      have hr1 : ¬ d + 1 < rk (t.take k).reverse c + rk kp c + 2 := by omega
      -- kept = start[at] + kept
      refine ⟨tV t, rfl, .int ((k : Nat) : Int), rfl, S t, ((k : Nat) : Int), c, rfl, rfl, smallT (by omega), atI_nat hc', tV kp, rfl, S [c], S kp, rfl, rfl, ?_, ?_⟩
      · rw [S_len, S_len, List.length_singleton]
        exact small (by omega)
      rw [S_cat]
      refine comp_dict (α := Nat) (κ := k1) k1_inj (g := fun z => .int (if ((rk kp c : Nat) : Int) + 1 < ((rk kp z : Nat) : Int) then ((rk kp c : Nat) : Int) + 1 else ((rk kp z : Nat) : Int))) rfl hd hks.1 (by omega) (fun _ => rfl) (by show 8 < 9; decide) (fun od z n H3 hz s3 Q2 q2 => ?_) (fun D H3 nD s3 hD => ?_)
      · exact ⟨.ref d4, rfl, kV (k1 z), rfl, d4, _, rfl, .inl ⟨_, k1 z, .inr ⟨od, s3 _ _ upd_same⟩, rfl, ((val_dk k1_inj z _ ks).trans (if_pos (List.mem_of_getElem? hz))).symm⟩, _, rfl, _, _, rfl, q2 H3 (Same.refl _)⟩
      · have nDa : D ≠ a := (ne_of_none hA nD).symm
        have nDh : D ≠ ah := (ne_of_none hAh nD).symm
        refine ⟨_, rfl, .ref D, rfl, tV t, rfl, .int ((k : Nat) : Int), rfl, S t, ((k : Nat) : Int), c, rfl, rfl, smallT (by omega), atI_nat hc', D, _, rfl, DPut.k (k := k1 c) hD (by rw [dk_len]; exact small1000 (by omega)), ?_⟩
        rw [put_dk k1_inj]
        refine ⟨D, c :: kp, fs, ins ks c, _, _, rfl, (sm.trans s3).mut (sm.free nD) _, sm.free nD, ti.keep hk hc hr1, hks.next c, ?_, ?_, ?_⟩
        · rw [upd_same]
          refine congrArg (fun z => some (HO.dK z)) (dk_congr fun z hz => ?_)
          show (if z = c then V.int _ else V.int _) = V.int _
          rw [← rk_next]
          split <;> rfl
        · rw [upd_ne nDa.symm]
          exact s3 _ _ hA
        · rw [upd_ne nDh.symm]
          exact s3 _ _ hAh
  · obtain ⟨d4, kp, fs, ks, v6, v7, rfl, sm, nd4, ti, hks, hd, hA, hAh⟩ := p
    exact ⟨.ref a, rfl, q a fs H' ha sm hA (ti.done (by rw [S_len]; omega))⟩
end
end Sk
end
section
set_option Elab.async false
set_option linter.all false
set_option maxRecDepth 100000
set_option maxHeartbeats 4000000
namespace Sk
open PySem PySem.Spec PyProof.Rows L2 SX C8
theorem Abc.sml {t : Tx} {fs : List Tx} (h : Abc t) (hl : t.length ≤ 300) (hs : ∀ f ∈ fs, f.Sublist t) : Sml fs := fun f hf => by
  refine ⟨Nat.le_trans (hs f hf).length_le (by omega), fun c hc => ?_⟩
  have := (h c ((hs f hf).subset hc)).2
  omega
theorem last_at {xs : List V} {v : V} (h : xs.getLast? = some v) : atI xs (-1) = some v := by
  obtain ⟨ys, rfl⟩ := List.getLast?_eq_some_iff.mp h
  exact atI_last _ _
theorem map_last {fs : List Tx} {l : Tx} (h : fs.getLast? = some l) : (fs.map tV).getLast? = some (tV l) := by
  rw [List.getLast?_map, h]
  rfl
theorem cut1V (xs : List V) : cutV xs (some 1) none = xs.drop 1 := by
  unfold cutV
  rw [show HT.sIx xs.length 0 (some 1) = min 1 xs.length from HT.sIx_nat xs.length 0 1, HT.sIx_none]
  by_cases h : xs = []
  · subst h
    rfl
  · have : 1 ≤ xs.length := List.length_pos_iff.mpr h
    rw [Nat.min_eq_left this, List.take_of_length_le]
    rw [List.length_drop]
    exact Nat.le_refl _
section
variable {P : Program} {w : World} {K : PySem.W.Frag} {mg : Str → Option Value} {base : Heap}
theorem scTakenDown : FnScope ["depth", "text", "found", "fresh"] ["depth", "text"] (defScope sTakenDown) := fnScope_by (by decide +kernel)
def spTakenDown : Sp := fun vs H Q _ => ∃ (d : Nat) (t : Tx), vs = [.int ((d : Nat) : Int), tV t] ∧ t.length ≤ 256 ∧ Abc t ∧ ∀ (p : Addr) (fs : List Tx) (l : Tx) (H' : Hp), H p = none → Same H H' → H' p = some (.lst (fs.map tV)) → Td d t fs l → Reduced d l → Q (.ref p) H'
theorem c_taken_down (C : Ctx K mg) : Cal P w K mg base 3 "taken_down" spTakenDown [] := by
  refine (fTakenDown C).cal scTakenDown (fun _ _ _ _ _ _ us hl => match us, hl with | [_, _], _ => rfl) (fun vs H Q E h => ?_) (fun cdv A outer s H vs Q E hr h => ?_)
  · obtain ⟨d, t, rfl, _⟩ := h
    rfl
  obtain ⟨d, t, rfl, ht, habc, q⟩ := h
  have nd := scTakenDown.nd
  refine ⟨_, pss_cons (ps_set (i := 2) nd rfl (Or.inl rfl) (pe_lst (pa_cons (pv 1) pa_nil)))
    (pss_cons (ps_set (i := 3) nd rfl (Or.inl rfl) (pe_c (c_taken_once C) hr (by decide) (by rfl) (pa_cons (pv 0) (pa_cons (pv 1) pa_nil))))
    (pss_cons (ps_while PassesOwn.never (pt_cmpR (op_neD hr.units) (pv 3) (pe_lst pa_nil) (nomark _))
      (pss_cons (ps_set (i := 2) nd rfl (Or.inl rfl) (pe_op op_cat (pv 2) (pv 3)))
      (pss_one (ps_set (i := 3) nd rfl (Or.inl rfl) (pe_c (c_taken_once C) hr (by decide) (by rfl) (pa_cons (pv 0) (pa_cons (pe_ix ix_list (pv 2) (pe_un un_neg pe_int) (fun _ _ => rfl)) pa_nil)))))))
    (pss_one (ps_ret (pv 2))))), ?_⟩
  refine ⟨tV t, rfl, by show 1 ≤ sizeLine; decide, fun a ha => ?_⟩
  refine ⟨_, rfl, tV t, rfl, d, t, rfl, ht, fun b gs H1 nb s1 hb hg => ?_⟩
  refine ⟨fun m σ H' => ∃ (a b : Addr) (fs gs : List Tx) (l : Tx), σ = [some (.int ((d : Nat) : Int)), some (tV t), some (.ref a), some (.ref b)] ∧ Same H H' ∧ H a = none ∧ H' a = some (.lst (fs.map tV)) ∧ H' b = some (.lst (gs.map tV)) ∧ Td d t fs l ∧ Tk d l gs ∧ l.length = m,
    ⟨t.length, a, b, [t], gs, t, rfl, (sm_new ha _).trans s1, ha, s1 _ _ upd_same, hb, Td.start d t, hg, rfl⟩, fun m σ H' w => ?_⟩
  obtain ⟨a, b, fs, gs, l, rfl, sm, na, hA, hB, td, tk, hm⟩ := w
  refine ⟨.ref b, rfl, Nat.zero_le _, fun e he => ?_⟩
  have se := sm_new he (.lst [])
  have hl : l.Sublist t := td.sub l (List.mem_of_getLast? td.last)
  refine ne_texts (xs := gs) (ys := []) (sq (se _ _ hB)) (sq upd_same) (habc.sml (by omega) fun f hf => (tk.sub f hf).trans hl) sml_nil ?_
  refine ⟨_, rfl, ?_⟩
  by_cases hgs : gs = []
  · subst hgs
    refine iteF ?_
    exact ⟨.ref a, rfl, q a fs l _ na (sm.trans se) (se _ _ hA) td (Td.end (t := t) tk)⟩
  · rw [decide_eq_false hgs]
    refine iteT ?_
    obtain ⟨l2, td2, lt2⟩ := td.next tk hgs
    refine ⟨fun σ' H2 => ∃ m', m' < m ∧ ∃ (a b : Addr) (fs gs : List Tx) (l : Tx), σ' = [some (.int ((d : Nat) : Int)), some (tV t), some (.ref a), some (.ref b)] ∧ Same H H2 ∧ H a = none ∧ H2 a = some (.lst (fs.map tV)) ∧ H2 b = some (.lst (gs.map tV)) ∧ Td d t fs l ∧ Tk d l gs ∧ l.length = m', fun _ _ z => z, ?_⟩
    refine ⟨.ref a, rfl, .ref b, rfl, a, b, _, _, rfl, rfl, se _ _ hA, se _ _ hB, ?_, fun c hc => ?_⟩
    · rw [List.length_map, List.length_map]
      have h1 := td2.len
      rw [List.length_append] at h1
      exact small (by omega)
    · have sc := sm_new hc (.lst (fs.map tV ++ gs.map tV))
      have hl2 : l2.Sublist t := td2.sub l2 (List.mem_of_getLast? td2.last)
      refine ⟨_, rfl, .ref c, rfl, 1, rfl, c, fs.map tV ++ gs.map tV, -1, tV l2, rfl, rfl, sq upd_same, last_at (by rw [← List.map_append]; exact map_last td2.last), d, l2, rfl, Nat.le_trans hl2.length_le ht, fun b2 gs2 H3 nb2 s3 hb2 hg2 => ?_⟩
      refine ⟨l2.length, by omega, c, b2, fs ++ gs, gs2, l2, rfl, ((sm.trans se).trans sc).trans s3, (sm.trans se).free hc, ?_, hb2, td2, hg2, rfl⟩
      rw [List.map_append]
      exact s3 _ _ upd_same
end
end Sk
end
section
set_option autoImplicit false
namespace Sk
/-! putting in order -/
structure PI (d : Nat) (t now : Tx) (at_ : Nat) (gs : List Tx) : Prop where
  last : (t :: gs).getLast? = some now
  al : Alike d t now
  pr : prs now = prs t
  len : now.length = t.length
  mem : ∀ c ∈ now, c ∈ t
  ord : OrdTo d now at_
  cnt : gs.length + 2 * wt now ≤ 2 * wt t
theorem PI.start (d : Nat) (t : Tx) : PI d t t 0 [] := ⟨rfl, Alike.refl d t, rfl, rfl, fun _ h => h, fun p c e s h => (by cases h), (by simp)⟩
section
variable {d at_ : Nat} {t p s : Tx} {c e : Nat} {gs : List Tx} {g : Tx}
theorem PI.swap (h : PI d t (p ++ c :: e :: s) p.length gs) (w : Sw d p c e s) : PI d t (p ++ e :: c :: s) (p.length - 1) (gs ++ [g] ++ [p ++ e :: c :: s]) := by
  have hl := w.wt
  refine ⟨?_, h.al.trans w.alike, w.prs.trans h.pr, ?_, fun x hx => h.mem x ?_, h.ord.swap w, ?_⟩
  · rw [← List.cons_append, List.getLast?_append]
    rfl
  · have := h.len
    simp only [List.length_append, List.length_cons] at this ⊢
    exact this
  · simp only [List.mem_append, List.mem_cons] at hx ⊢
    rcases hx with hx | hx | hx | hx
    · exact .inl hx
    · exact .inr (.inr (.inl hx))
    · exact .inr (.inl hx)
    · exact .inr (.inr (.inr hx))
  · have := h.cnt
    simp only [List.length_append, List.length_singleton]
    omega
theorem PI.step (h : PI d t (p ++ c :: e :: s) p.length gs) (w : ¬ Sw d p c e s) : PI d t (p ++ c :: e :: s) (p.length + 1) gs := ⟨h.last, h.al, h.pr, h.len, h.mem, h.ord.succ w, h.cnt⟩
/-- the test's three parts -/
theorem sw_iff (p s : Tx) (c e : Nat) : Sw d p c e s ↔ ((rk p.reverse c + 1 = rk (p ++ [c]).reverse e + 1 ∧ rk (e :: s) c + 1 = rk s e + 1) ∧ (rk p.reverse c + 1) + (rk (e :: s) c + 1) = d + 1) ∧ e < c := by
  have e1 : (p ++ [c]).reverse = c :: p.reverse := by simp
  constructor
  · intro w
    refine ⟨⟨⟨?_, ?_⟩, ?_⟩, w.d⟩
    · rw [e1, w.x]
    · rw [w.y]
    · have := w.s
      have := w.y
      omega
  · rintro ⟨⟨⟨h1, h2⟩, h3⟩, h4⟩
    rw [e1] at h1
    exact ⟨by omega, by omega, by omega, h4⟩
end
theorem split2 {t : Tx} {k : Nat} (h : k + 1 < t.length) : ∃ p c e s, t = p ++ c :: e :: s ∧ p.length = k := by
  have h0 : k < t.length := by omega
  refine ⟨t.take k, t[k], t[k + 1], t.drop (k + 2), ?_, by rw [List.length_take]; omega⟩
  rw [← List.drop_eq_getElem_cons h, ← List.drop_eq_getElem_cons h0, List.take_append_drop]
theorem prs_at2 (p : Tx) (c e : Nat) (s : Tx) : (prs (p ++ c :: e :: s))[p.length + 1]? = some (rk (p ++ [c]).reverse e + 1, rk s e + 1) := by
  have h := prs_at (p ++ [c]) e s
  rw [List.append_assoc, List.length_append] at h
  exact h
end Sk
end
section
set_option Elab.async false
set_option linter.all false
set_option maxRecDepth 100000
set_option maxHeartbeats 4000000
namespace Sk
open PySem PySem.Spec PyProof.Rows L2 SX C8
theorem eq_pairs {K : PySem.W.Frag} {H : Hp} {a b : Addr} {x y u v : Nat} {Q : VK} (h1 : H a = some (.tup [.int ((x : Nat) : Int), .int ((y : Nat) : Int)])) (h2 : H b = some (.tup [.int ((u : Nat) : Int), .int ((v : Nat) : Int)])) (q : Q (.bl (decide (x = u ∧ y = v))) H) : rEqD K (.ref a) (.ref b) H Q := by
  refine ⟨_, _, .tup (st h1) (.cons (.int _) (.cons (.int _) .nil)), .tup (st h2) (.cons (.int _) (.cons (.int _) .nil)), ?_, ?_, ?_⟩
  · unfold SeqAt.shaped
    simp [PyData.canLay0, PyData.canLayAll0, PyData.depth, PyData.depthAll]
  · unfold SeqAt.shaped
    simp [PyData.canLay0, PyData.canLayAll0, PyData.depth, PyData.depthAll]
  · have e : PyData.eqv (.tuple [.int ((x : Nat) : Int), .int ((y : Nat) : Int)]) (.tuple [.int ((u : Nat) : Int), .int ((v : Nat) : Int)]) = decide (x = u ∧ y = v) := by
      simp [PyData.eqv, PyData.eqvAll]
      by_cases h1 : x = u <;> by_cases h2 : y = v <;> simp [h1, h2] <;> omega
    rw [e]
    exact q
theorem one_len (c : Nat) : ({ cps := #[c] } : Str).length = 1 := rfl
theorem sign_lt (e c : Nat) : decide ((S [e]).cps.toList < (S [c]).cps.toList) = decide (e < c) := by
  have : (([e] : List Nat) < [c]) ↔ e < c := by
    rw [List.cons_lt_cons_iff]
    simp
  show decide (([e] : List Nat) < [c]) = decide (e < c)
  simp [this]
section
variable {P : Program} {w : World} {K : PySem.W.Frag} {mg : Str → Option Value} {base : Heap}
theorem scPutInOrder : FnScope ["depth", "text", "pairs", "found", "at", "now", "pair"] ["depth", "text"] (defScope sPutInOrder) := fnScope_by (by decide +kernel)
def spPutInOrder : Sp := fun vs H Q _ => ∃ (d : Nat) (t : Tx), vs = [.int ((d : Nat) : Int), tV t] ∧ t.length ≤ 256 ∧ Abc t ∧ ∀ (p : Addr) (gs : List Tx) (l : Tx) (n : Nat) (H' : Hp), H p = none → Same H H' → H' p = some (.lst ((t :: gs).map tV)) → PI d t l n gs → l.length ≤ n + 1 → Q (.ref p) H'
theorem c_put_in_order (C : Ctx K mg) : Cal P w K mg base 3 "put_in_order" spPutInOrder [] := by
  refine (fPutInOrder C).cal scPutInOrder (fun _ _ _ _ _ _ us hl => match us, hl with | [_, _], _ => rfl) (fun vs H Q E h => ?_) (fun cdv A outer s H vs Q E hr h => ?_)
  · obtain ⟨d, t, rfl, _⟩ := h
    rfl
  obtain ⟨d, t, rfl, ht, habc, q⟩ := h
  have nd := scPutInOrder.nd
  have nw : ∀ {X : Cx}, X.N = X.N := fun {X} => rfl
  refine ⟨_, pss_cons (ps_par3 (i := 2) (j := 3) (l := 4) rfl nd rfl rfl rfl (by decide) (by decide) (by decide) rfl rfl rfl (pa_cons (pe_c (c_ranks_of C) hr (by decide) (by rfl) (pa_cons (pv 1) pa_nil)) (pa_cons (pe_lst (pa_cons (pv 1) pa_nil)) (pa_cons pe_int pa_nil))) rfl)
    (pss_cons (ps_while PassesOwn.never (pt_cmpR op_lt (pe_op op_add (pv 4) pe_int) (pe_callB call_len_str (by rfl) (b_len C) boot_len (pa_cons (pv 1) pa_nil)) (nomark _))
      (pss_cons (ps_par (i := 5) (j := 6) rfl nd rfl rfl (by decide) rfl rfl (pa_cons (pe_ix ix_list (pv 3) (pe_un un_neg pe_int) (fun _ _ => rfl)) (pa_cons (pe_ix ix_list (pv 2) (pv 4) (fun _ _ => rfl)) pa_nil)) rfl)
      (pss_one (ps_if (PW.pt (pw_and (pt_cmpR (op_eqD hr.units) (pv 6) (pe_ix ix_list (pv 2) (pe_op op_add (pv 4) pe_int) (fun _ _ => rfl)) (nomark _))
          (pw_and (pt_cmpR op_eq (pe_op op_add (pe_ix ix_tup (pv 6) pe_int (fun _ _ => rfl)) (pe_ix ix_tup (pv 6) pe_int (fun _ _ => rfl))) (pe_op op_add (pv 0) pe_int) (nomark _))
          (pw_and1 (pt_cmpR op_gt_str (pe_ix ix_str (pv 5) (pv 4) (fun _ _ => rfl)) (pe_ix ix_str (pv 5) (pe_op op_add (pv 4) pe_int) (fun _ _ => rfl)) (nomark _))))))
        (pss_cons (ps_expr (pe_bm PySem.F.plainAttrs_list PySem.F.slot_list_append PySem.F.type_list_append mt_append (pv 3) (pa_cons (pe_op op_add_str (pe_op op_add_str (pe_slice sl_str (pv 5) po_none (po_some (pe_op op_add (pv 4) pe_int))) (pe_ix ix_str (pv 5) (pv 4) (fun _ _ => rfl))) (pe_slice sl_str (pv 5) (po_some (pe_op op_add (pv 4) pe_int)) po_none)) pa_nil)))
        (pss_cons (ps_expr (pe_bm PySem.F.plainAttrs_list PySem.F.slot_list_append PySem.F.type_list_append mt_append (pv 3) (pa_cons (pe_op op_add_str (pe_op op_add_str (pe_op op_add_str (pe_slice sl_str (pv 5) po_none (po_some (pv 4))) (pe_ix ix_str (pv 5) (pe_op op_add (pv 4) pe_int) (fun _ _ => rfl))) (pe_ix ix_str (pv 5) (pv 4) (fun _ _ => rfl))) (pe_slice sl_str (pv 5) (po_some (pe_op op_add (pv 4) pe_int)) po_none)) pa_nil)))
        (pss_one (ps_set (i := 4) nd rfl (Or.inl rfl) (pe_callB (call_max2 rfl) (by rfl) (b_max C) boot_max (pa_cons pe_int (pa_cons (pe_op op_sub (pv 4) pe_int) pa_nil)))))))
        (pss_one (ps_set (i := 4) nd rfl (Or.inl rfl) (pe_op op_add (pv 4) pe_int)))))))
    (pss_one (ps_ret (pv 3)))), ?_⟩
  refine ⟨tV t, rfl, t, rfl, by omega, fun pa ts H1 npa s1 hpa hts => ?_⟩
  refine ⟨tV t, rfl, by show 1 ≤ sizeLine; decide, fun fa hfa => ?_⟩
  refine ⟨.ref pa, .ref fa, .int 0, rfl, ?_⟩
  have nfp : fa ≠ pa := (ne_of_none hpa hfa).symm
  have sf := sm_new hfa (.lst [tV t])
  have hfa0 : H fa = none := s1.free hfa
  have hwt : wt t ≤ 99 * (t.length * t.length) := wt_le t fun c hc => (habc c hc).2
  have hsq : t.length * t.length ≤ 256 * 256 := Nat.mul_le_mul ht ht
  refine ⟨fun m σ H' => ∃ (gs : List Tx) (now : Tx) (k : Nat) (v5 v6 : Option V), σ = [some (.int ((d : Nat) : Int)), some (tV t), some (.ref pa), some (.ref fa), some (.int ((k : Nat) : Int)), v5, v6] ∧ Same H H' ∧
      H' pa = some (.lst (ts.map V.ref)) ∧ PAt H' ts (prs t) ∧ H' fa = some (.lst ((t :: gs).map tV)) ∧ PI d t now k gs ∧ m = 2 * wt now + (t.length - k),
    ⟨_, [], t, 0, none, none, rfl, s1.trans sf, sf _ _ hpa, hts.same sf, upd_same, PI.start d t, rfl⟩, fun m σ H' w => ?_⟩
  obtain ⟨gs, now, k, v5, v6, rfl, sm, hP, hT, hF, pi, hm⟩ := w
  refine ⟨.int ((k : Nat) : Int), rfl, _, _, rfl, rfl, tV t, rfl, S t, rfl, smallT (by omega), _, _, rfl, rfl, _, rfl, ite2 (fun e => ?_) (fun e => ?_)⟩
  · have e1 := of_decide_eq_true e
    rw [S_len] at e1
    have hkl : k + 1 < now.length := by rw [pi.len]; omega
    obtain ⟨p, c, e', s', hnow, hpl⟩ := split2 hkl
    subst hnow
    subst hpl
    have hpr1 := prs_at p c (e' :: s')
    have hpr2 := prs_at2 p c e' s'
    rw [pi.pr] at hpr1 hpr2
    obtain ⟨a1, ha1, hA1⟩ := hT.2 _ _ _ hpr1
    obtain ⟨a2, ha2, hA2⟩ := hT.2 _ _ _ hpr2
    have ga1 : (ts.map V.ref)[p.length]? = some (.ref a1) := by rw [List.getElem?_map, ha1]; rfl
    have ga2 : (ts.map V.ref)[p.length + 1]? = some (.ref a2) := by rw [List.getElem?_map, ha2]; rfl
    have gc : (S (p ++ c :: e' :: s')).cps.toList[p.length]? = some c := by show (p ++ c :: e' :: s')[p.length]? = some c; simp
    have ge : (S (p ++ c :: e' :: s')).cps.toList[p.length + 1]? = some e' := by show (p ++ c :: e' :: s')[p.length + 1]? = some e'; simp
    have hnl : (p ++ c :: e' :: s').length ≤ 256 := by rw [pi.len]; exact ht
    have hz : (S (p ++ c :: e' :: s')).length ≤ sizeLine := smallT (by omega)
    have ek1 : ((p.length : Nat) : Int) + 1 = ((p.length + 1 : Nat) : Int) := by omega
    have ek2 : ((p.length : Nat) : Int) + 2 = ((p.length + 2 : Nat) : Int) := by omega
    refine ⟨fun σ' H2 => ∃ m', m' < m ∧ ∃ (gs : List Tx) (now : Tx) (k : Nat) (v5 v6 : Option V), σ' = [some (.int ((d : Nat) : Int)), some (tV t), some (.ref pa), some (.ref fa), some (.int ((k : Nat) : Int)), v5, v6] ∧ Same H H2 ∧
      H2 pa = some (.lst (ts.map V.ref)) ∧ PAt H2 ts (prs t) ∧ H2 fa = some (.lst ((t :: gs).map tV)) ∧ PI d t now k gs ∧ m' = 2 * wt now + (t.length - k), fun _ _ z => z, ?_⟩
    -- now, pair
    refine ⟨.ref fa, rfl, 1, rfl, fa, _, -1, tV (p ++ c :: e' :: s'), rfl, rfl, sq hF, last_at (map_last pi.last), .ref pa, rfl, .int ((p.length : Nat) : Int), rfl, pa, _, _, .ref a1, rfl, rfl, sq hP, atI_nat ga1, tV (p ++ c :: e' :: s'), .ref a1, rfl, ?_⟩
    -- pair == pairs[at + 1]
    refine ⟨.ref a1, rfl, .ref pa, rfl, .int ((p.length : Nat) : Int), rfl, _, _, rfl, rfl, pa, _, _, .ref a2, rfl, rfl, sq hP, by rw [ek1]; exact atI_nat ga2, eq_pairs hA1 hA2 ⟨_, rfl, ?_⟩⟩
    have other : ¬ Sw d p c e' s' → ∃ m', m' < m ∧ ∃ (gs' : List Tx) (now : Tx) (k : Nat) (v5 v6 : Option V), [some (.int ((d : Nat) : Int)), some (tV t), some (.ref pa), some (.ref fa), some (.int (((p.length : Nat) : Int) + 1)), some (tV (p ++ c :: e' :: s')), some (.ref a1)] = [some (.int ((d : Nat) : Int)), some (tV t), some (.ref pa), some (.ref fa), some (.int ((k : Nat) : Int)), v5, v6] ∧ Same H H' ∧
        H' pa = some (.lst (ts.map V.ref)) ∧ PAt H' ts (prs t) ∧ H' fa = some (.lst ((t :: gs').map tV)) ∧ PI d t now k gs' ∧ m' = 2 * wt now + (t.length - k) := fun nw =>
      ⟨_, by rw [hm]; omega, gs, _, p.length + 1, _, _, rfl, sm, hP, hT, hF, pi.step nw, rfl⟩
    by_cases c1 : rk p.reverse c + 1 = rk (p ++ [c]).reverse e' + 1 ∧ rk (e' :: s') c + 1 = rk s' e' + 1
    · rw [decide_eq_true c1]
      refine iteT ?_
      refine ⟨.ref a1, rfl, a1, _, 0, _, rfl, rfl, st hA1, rfl, .ref a1, rfl, a1, _, 1, _, rfl, rfl, st hA1, rfl, _, _, rfl, rfl, .int ((d : Nat) : Int), rfl, _, _, rfl, rfl, rfl, _, rfl, ?_⟩
      by_cases c2 : (rk p.reverse c + 1) + (rk (e' :: s') c + 1) = d + 1
      · rw [decide_eq_true (show V.int (((rk p.reverse c + 1 : Nat) : Int) + ((rk (e' :: s') c + 1 : Nat) : Int)) = V.int (((d : Nat) : Int) + 1) from congrArg V.int (by omega))]
        refine iteT ?_
        refine ⟨tV (p ++ c :: e' :: s'), rfl, .int ((p.length : Nat) : Int), rfl, _, _, c, rfl, rfl, hz, atI_nat gc, tV (p ++ c :: e' :: s'), rfl, .int ((p.length : Nat) : Int), rfl, _, _, rfl, rfl, _, _, e', rfl, rfl, hz, by rw [ek1]; exact atI_nat ge, _, _, rfl, rfl, _, rfl, ?_⟩
        by_cases c3 : e' < c
        · have sw : Sw d p c e' s' := (sw_iff p s' c e').mpr ⟨⟨c1, c2⟩, c3⟩
          rw [sign_lt, decide_eq_true c3]
          refine iteT ?_
          have cnt := pi.cnt
          have big : gs.length ≤ 13000000 := by omega
          have e2 : cutS (S (p ++ c :: e' :: s')) none (some (((p.length : Nat) : Int) + 2)) = S (p ++ [c, e']) := by
            rw [ek2, cut_to _ (by omega)]
            refine congrArg S ?_
            rw [List.take_append, List.take_of_length_le (by omega), show p.length + 2 - p.length = 2 by omega]
            rfl
          have e3 : cutS (S (p ++ c :: e' :: s')) (some (((p.length : Nat) : Int) + 2)) none = S s' := by
            rw [ek2, cut_from _ (by omega)]
            refine congrArg S ?_
            rw [List.drop_append, List.drop_of_length_le (by omega), show p.length + 2 - p.length = 2 by omega]
            rfl
          have e4 : cutS (S (p ++ c :: e' :: s')) none (some ((p.length : Nat) : Int)) = S p := by
            rw [cut_to _ (by omega), List.take_left]
          have lp : p.length + (s'.length + 2) ≤ 256 := by
            have := hnl
            simp only [List.length_append, List.length_cons] at this
            omega
          refine ⟨.ref fa, rfl, .inl ⟨rfl, _, sq hF⟩, tV (p ++ c :: e' :: s'), rfl, .int ((p.length : Nat) : Int), rfl, _, _, rfl, rfl, _, rfl, _, rfl, hz, tV (p ++ c :: e' :: s'), rfl, .int ((p.length : Nat) : Int), rfl, _, _, c, rfl, rfl, hz, atI_nat gc, _, _, rfl, rfl, ?_, ?_⟩
          · rw [e2, S_len, one_len, List.length_append]
            exact small (by show p.length + 2 + 1 ≤ _; omega)
          refine ⟨tV (p ++ c :: e' :: s'), rfl, .int ((p.length : Nat) : Int), rfl, _, _, rfl, rfl, _, rfl, _, rfl, hz, _, _, rfl, rfl, ?_, fa, _, _, rfl, rfl, hF, ?_, ?_⟩
          · rw [e2, e3, S_cat, S_len, S_len]
            simp only [List.length_append, List.length_cons, List.length_nil]
            exact small (by omega)
          · rw [List.length_map, List.length_cons]
            exact Nat.lt_of_le_of_lt (Nat.succ_le_succ big) (by decide)
          rw [e2, e3, S_cat, S_cat]
          -- the second text
          refine ⟨.ref fa, rfl, .inl ⟨rfl, _, sq upd_same⟩, tV (p ++ c :: e' :: s'), rfl, .int ((p.length : Nat) : Int), rfl, _, rfl, _, rfl, hz, tV (p ++ c :: e' :: s'), rfl, .int ((p.length : Nat) : Int), rfl, _, _, rfl, rfl, _, _, e', rfl, rfl, hz, by rw [ek1]; exact atI_nat ge, _, _, rfl, rfl, ?_, ?_⟩
          · rw [e4, S_len, one_len]
            exact small (by omega)
          refine ⟨tV (p ++ c :: e' :: s'), rfl, .int ((p.length : Nat) : Int), rfl, _, _, c, rfl, rfl, hz, atI_nat gc, _, _, rfl, rfl, ?_, ?_⟩
          · rw [e4, S_cat p [e'], S_len, one_len, List.length_append, List.length_singleton]
            exact small (by omega)
          refine ⟨tV (p ++ c :: e' :: s'), rfl, .int ((p.length : Nat) : Int), rfl, _, _, rfl, rfl, _, rfl, _, rfl, hz, _, _, rfl, rfl, ?_, fa, _, _, rfl, rfl, upd_same, ?_, ?_⟩
          · rw [e4, e3, S_cat p [e'], S_cat (p ++ [e']) [c], S_len, S_len]
            simp only [List.length_append, List.length_cons, List.length_nil]
            exact small (by omega)
          · rw [List.length_append, List.length_map, List.length_cons]
            exact Nat.lt_of_le_of_lt (Nat.succ_le_succ (Nat.succ_le_succ big)) (by decide)
          rw [e4, e3, S_cat p [e'], S_cat (p ++ [e']) [c], S_cat]
          -- at = max(0, at - 1)
          refine ⟨.int ((p.length : Nat) : Int), rfl, _, _, rfl, rfl, 0, _, rfl, ?_⟩
          have em : (if ((p.length : Nat) : Int) - 1 > 0 then ((p.length : Nat) : Int) - 1 else 0) = ((p.length - 1 : Nat) : Int) := by
            split <;> omega
          have ew : p ++ [e'] ++ [c] ++ s' = p ++ e' :: c :: s' := by simp
          have hw := sw.wt
          refine ⟨2 * wt (p ++ e' :: c :: s') + (t.length - (p.length - 1)), ?_, gs ++ [p ++ [c, e'] ++ [c] ++ s'] ++ [p ++ e' :: c :: s'], p ++ e' :: c :: s', p.length - 1, some (tV (p ++ c :: e' :: s')), some (.ref a1), ?_, (sm.mut hfa0 _).mut hfa0 _, ?_, ?_, ?_, pi.swap sw, rfl⟩
          · rw [hm]
            have := pi.len
            simp only [List.length_append, List.length_cons] at this
            omega
          · show [_, _, _, _, some (V.int (if ((p.length : Nat) : Int) - 1 > 0 then ((p.length : Nat) : Int) - 1 else 0)), _, _] = _
            rw [em]
          · rw [upd_upd, upd_ne nfp.symm]
            exact hP
          · rw [upd_upd]
            refine ⟨hT.1, fun i x y hi => ?_⟩
            obtain ⟨b, hb1, hb2⟩ := hT.2 i x y hi
            refine ⟨b, hb1, ?_⟩
            have nb : b ≠ fa := fun z => by
              rw [z, hF] at hb2
              cases hb2
            rw [upd_ne nb]
            exact hb2
          · rw [upd_same, ew]
            simp
        · rw [sign_lt, decide_eq_false c3]
          refine iteF ?_
          exact ⟨.int ((p.length : Nat) : Int), rfl, _, _, rfl, rfl, other fun w => c3 w.d⟩
      · rw [decide_eq_false (show ¬ V.int (((rk p.reverse c + 1 : Nat) : Int) + ((rk (e' :: s') c + 1 : Nat) : Int)) = V.int (((d : Nat) : Int) + 1) from fun z => c2 (by have := V.int.inj z; omega))]
        refine iteF ?_
        exact ⟨.int ((p.length : Nat) : Int), rfl, _, _, rfl, rfl, other fun w => c2 ((sw_iff p s' c e').mp w).1.2⟩
    · rw [decide_eq_false c1]
      refine iteF ?_
      exact ⟨.int ((p.length : Nat) : Int), rfl, _, _, rfl, rfl, other fun w => c1 ((sw_iff p s' c e').mp w).1.1⟩
  · have e1 : ¬ ((k : Nat) : Int) + 1 < ((t.length : Nat) : Int) := fun z => e (decide_eq_true (by rw [S_len]; exact z))
    refine ⟨.ref fa, rfl, q fa gs now k H' hfa0 sm hF pi ?_⟩
    have := pi.len
    omega
end
end Sk
end
section
set_option Elab.async false
set_option linter.all false
set_option maxRecDepth 100000
set_option maxHeartbeats 4000000
namespace Sk
open PySem PySem.Spec PyProof.Rows L2 SX C8
section
variable {P : Program} {w : World} {K : PySem.W.Frag} {mg : Str → Option Value} {base : Heap}
theorem scWayDown : FnScope ["depth", "text", "found"] ["depth", "text"] (defScope sWayDown) := fnScope_by (by decide +kernel)
def spWayDown : Sp := fun vs H Q _ => ∃ (d : Nat) (t : Tx), vs = [.int ((d : Nat) : Int), tV t] ∧ t.length ≤ 256 ∧ Abc t ∧ ∀ (p : Addr) (fs : List Tx) (l : Tx) (H' : Hp), H p = none → Same H H' → H' p = some (.lst (fs.map tV)) → fs.getLast? = some l → IsForm d t l → Q (.ref p) H'
theorem c_way_down (C : Ctx K mg) : Cal P w K mg base 4 "way_down" spWayDown [] := by
  refine (fWayDown C).cal scWayDown (fun _ _ _ _ _ _ us hl => match us, hl with | [_, _], _ => rfl) (fun vs H Q E h => ?_) (fun cdv A outer s H vs Q E hr h => ?_)
  · obtain ⟨d, t, rfl, _⟩ := h
    rfl
  obtain ⟨d, t, rfl, ht, habc, q⟩ := h
  have nd := scWayDown.nd
  refine ⟨_, pss_cons (ps_set (i := 2) nd rfl (Or.inl rfl) (pe_c (c_taken_down C) hr (by decide) (by rfl) (pa_cons (pv 0) (pa_cons (pv 1) pa_nil))))
    (pss_one (ps_ret (pe_op op_cat (pv 2) (pe_slice sl_list (pe_c (c_put_in_order C) hr (by decide) (by rfl) (pa_cons (pv 0) (pa_cons (pe_ix ix_list (pv 2) (pe_un un_neg pe_int) (fun _ _ => rfl)) pa_nil))) (po_some pe_int) po_none)))), ?_⟩
  refine ⟨_, rfl, tV t, rfl, d, t, rfl, ht, habc, fun a fs l H1 na s1 ha td red => ?_⟩
  have hl : l.Sublist t := td.sub l (List.mem_of_getLast? td.last)
  have hll : l.length ≤ 256 := Nat.le_trans hl.length_le ht
  refine ⟨.ref a, rfl, _, rfl, .ref a, rfl, 1, rfl, a, _, -1, tV l, rfl, rfl, sq ha, last_at (map_last td.last), d, l, rfl, hll, habc.sub hl, fun b gs m n H2 nb s2 hb pi hn => ?_⟩
  have hwt : wt l ≤ 99 * (l.length * l.length) := wt_le l fun c hc => (habc.sub hl c hc).2
  have hsq : l.length * l.length ≤ 256 * 256 := Nat.mul_le_mul hll hll
  have cnt := pi.cnt
  refine ⟨1, rfl, b, _, rfl, sq hb, fun e he => ?_⟩
  rw [cut1V]
  have se := sm_new he (.lst (((l :: gs).map tV).drop 1))
  refine ⟨a, e, _, _, rfl, rfl, se _ _ (s2 _ _ ha), upd_same, ?_, fun c hc => ?_⟩
  · have h1 := td.len
    rw [List.length_map]
    show fs.length + (gs.map tV).length ≤ sizeLine
    rw [List.length_map]
    exact Nat.le_trans (show fs.length + gs.length ≤ 13000000 by omega) (by decide)
  · refine q c (fs ++ gs) m _ ((s1.trans s2).trans se |>.free hc) (((s1.trans s2).trans se).trans (sm_new hc _)) ?_ ?_ ?_
    · rw [upd_same, List.map_append]
      rfl
    · rw [List.getLast?_append]
      have h1 := pi.last
      cases gs with
      | nil =>
        rw [td.last]
        exact h1
      | cons g r =>
        rw [List.getLast?_cons_cons] at h1
        rw [h1]
        rfl
    · exact ⟨td.al.trans pi.al, reduced_of red pi.pr, pi.ord.all hn, by rw [pi.len]; exact hl.length_le, fun x hx => hl.subset (pi.mem x hx)⟩
def spForm : Sp := fun vs H Q _ => ∃ (d : Nat) (t : Tx), vs = [.int ((d : Nat) : Int), tV t] ∧ t.length ≤ 256 ∧ Abc t ∧ ∀ (l : Tx) (H' : Hp), Same H H' → IsForm d t l → Q (tV l) H'
theorem scLeastFormOf : FnScope ["depth", "text"] ["depth", "text"] (defScope sLeastFormOf) := fnScope_by (by decide +kernel)
theorem c_least_form_of (C : Ctx K mg) : Cal P w K mg base 5 "least_form_of" spForm [] := by
  refine (fLeastFormOf C).cal scLeastFormOf (fun _ _ _ _ _ _ us hl => match us, hl with | [_, _], _ => rfl) (fun vs H Q E h => ?_) (fun cdv A outer s H vs Q E hr h => ?_)
  · obtain ⟨d, t, rfl, _⟩ := h
    rfl
  obtain ⟨d, t, rfl, ht, habc, q⟩ := h
  refine ⟨_, pss_one (ps_ret (pe_ix ix_list (pe_c (c_way_down C) hr (by decide) (by rfl) (pa_cons (pv 0) (pa_cons (pv 1) pa_nil))) (pe_un un_neg pe_int) (fun _ _ => rfl))), ?_⟩
  exact ⟨_, rfl, tV t, rfl, d, t, rfl, ht, habc, fun a fs l H1 na s1 ha hl f => ⟨1, rfl, a, _, -1, tV l, rfl, rfl, sq ha, last_at (map_last hl), q l H1 s1 f⟩⟩
theorem scLeastForm : FnScope ["depth", "text"] ["depth", "text"] (defScope sLeastForm) := fnScope_by (by decide +kernel)
theorem c_least_form (C : Ctx K mg) : Cal P w K mg base 6 "least_form" spForm [] := by
  refine (fLeastForm C).cal scLeastForm (fun _ _ _ _ _ _ us hl => match us, hl with | [_, _], _ => rfl) (fun vs H Q E h => ?_) (fun cdv A outer s H vs Q E hr h => ?_)
  · obtain ⟨d, t, rfl, _⟩ := h
    rfl
  obtain ⟨d, t, rfl, ht, habc, q⟩ := h
  refine ⟨_, pss_cons (ps_expr (pe_c (c_check_depth C) hr (by decide) (by rfl) (pa_cons (pv 0) pa_nil)))
    (pss_cons (ps_expr (pe_c (c_check_text C) hr (by decide) (by rfl) (pa_cons (pv 1) pa_nil)))
    (pss_one (ps_ret (pe_c (c_least_form_of C) hr (by decide) (by rfl) (pa_cons (pv 0) (pa_cons (pv 1) pa_nil)))))), ?_⟩
  exact ⟨_, rfl, d, rfl, tV t, rfl, t, rfl, by omega, habc.lo, _, rfl, tV t, rfl, d, t, rfl, ht, habc, q⟩
theorem scReadAlike : FnScope ["depth", "one", "other"] ["depth", "one", "other"] (defScope sReadAlike) := fnScope_by (by decide +kernel)
def spReadAlike : Sp := fun vs H Q _ => ∃ (d : Nat) (t u : Tx), vs = [.int ((d : Nat) : Int), tV t, tV u] ∧ (t.length ≤ 256 ∧ u.length ≤ 256) ∧ (Abc t ∧ Abc u) ∧ Alike d t u ∧ ∀ (H' : Hp), Same H H' → Q (.bl true) H'
theorem c_read_alike (C : Ctx K mg) : Cal P w K mg base 6 "read_alike" spReadAlike [] := by
  refine (fReadAlike C).cal scReadAlike (fun _ _ _ _ _ _ us hl => match us, hl with | [_, _, _], _ => rfl) (fun vs H Q E h => ?_) (fun cdv A outer s H vs Q E hr h => ?_)
  · obtain ⟨d, t, u, rfl, _⟩ := h
    rfl
  obtain ⟨d, t, u, rfl, ⟨ht, hu⟩, ⟨at', au⟩, al, q⟩ := h
  refine ⟨_, pss_cons (ps_expr (pe_c (c_check_depth C) hr (by decide) (by rfl) (pa_cons (pv 0) pa_nil)))
    (pss_cons (ps_expr (pe_c (c_check_text C) hr (by decide) (by rfl) (pa_cons (pv 1) pa_nil)))
    (pss_cons (ps_expr (pe_c (c_check_text C) hr (by decide) (by rfl) (pa_cons (pv 2) pa_nil)))
    (pss_one (ps_ret (pe_cmpR op_eq (pe_c (c_least_form_of C) hr (by decide) (by rfl) (pa_cons (pv 0) (pa_cons (pv 1) pa_nil))) (pe_c (c_least_form_of C) hr (by decide) (by rfl) (pa_cons (pv 0) (pa_cons (pv 2) pa_nil))) (nomark _)))))), ?_⟩
  refine ⟨_, rfl, d, rfl, tV t, rfl, t, rfl, by omega, at'.lo, tV u, rfl, u, rfl, by omega, au.lo, _, rfl, tV t, rfl, d, t, rfl, ht, at', fun l H1 s1 f1 => ?_⟩
  refine ⟨_, rfl, tV u, rfl, d, u, rfl, hu, au, fun m H2 s2 f2 => ⟨rfl, ?_⟩⟩
  have e : l = m := (f1.eq_iff f2).mpr al
  exact qT (Q := Q) (by rw [e]) (q H2 (s1.trans s2))
end
end Sk
end
section
set_option Elab.async false
set_option linter.all false
set_option maxRecDepth 100000
set_option maxHeartbeats 4000000
namespace Sk
open PySem PySem.Spec PyProof.Rows L2 SX C8
theorem rep_len (t : Tx) : ∀ n, (rep t n).length = n * t.length
  | 0 => by simp [rep]
  | n + 1 => by
    have h := rep_len t n
    unfold rep at h ⊢
    rw [List.replicate_succ, List.flatten_cons, List.length_append, h, Nat.add_mul]
    omega
theorem rep_mem {t : Tx} {n c : Nat} (h : c ∈ rep t n) : c ∈ t := by
  unfold rep at h
  obtain ⟨l, hl, hc⟩ := List.mem_flatten.mp h
  rw [List.eq_of_mem_replicate hl] at hc
  exact hc
theorem Abc.app {t u : Tx} (h : Abc t) (g : Abc u) : Abc (t ++ u) := fun c hc => by
  rcases List.mem_append.mp hc with z | z
  · exact h c z
  · exact g c z
theorem Abc.rep {t : Tx} (h : Abc t) (n : Nat) : Abc (rep t n) := fun c hc => h c (rep_mem hc)
/-- the text with a part taken so often -/
def far (h p t : Tx) (n : Nat) : Tx := h ++ rep p n ++ t
/-- from this number on it is read alike, one time less it is not -/
structure Steady (d : Nat) (h p t : Tx) (m : Nat) : Prop where
  le : m ≤ d
  on : ∀ j, m ≤ j → j ≤ d → Alike d (far h p t j) (far h p t d)
  off : m = 0 ∨ ¬ Alike d (far h p t (m - 1)) (far h p t d)
section
variable {P : Program} {w : World} {K : PySem.W.Frag} {mg : Str → Option Value} {base : Heap}
theorem scSteadyFrom : FnScope ["depth", "head", "part", "tail", "form", "found"] ["depth", "head", "part", "tail"] (defScope sSteadyFrom) := fnScope_by (by decide +kernel)
def spSteadyFrom : Sp := fun vs H Q _ => ∃ (d : Nat) (h p t : Tx), vs = [.int ((d : Nat) : Int), tV h, tV p, tV t] ∧ d ≤ 10 ∧ (h.length ≤ 10 ∧ p.length ≤ 10 ∧ t.length ≤ 10) ∧ (Abc h ∧ Abc p ∧ Abc t) ∧ ∀ (m : Nat) (H' : Hp), Same H H' → Steady d h p t m → Q (.int ((m : Nat) : Int)) H'
theorem c_steady_from (C : Ctx K mg) : Cal P w K mg base 6 "steady_from" spSteadyFrom [] := by
  refine (fSteadyFrom C).cal scSteadyFrom (fun _ _ _ _ _ _ us hl => match us, hl with | [_, _, _, _], _ => rfl) (fun vs H Q E h => ?_) (fun cdv A outer s H vs Q E hr h => ?_)
  · obtain ⟨d, h, p, t, rfl, _⟩ := h
    rfl
  obtain ⟨d, h, p, t, rfl, hd, ⟨lh, lp, lt⟩, ⟨ah, ap, at'⟩, q⟩ := h
  have nd := scSteadyFrom.nd
  have flen : ∀ n, n ≤ 10 → (far h p t n).length ≤ 120 := fun n hn => by
    have h1 : n * p.length ≤ 10 * 10 := Nat.mul_le_mul hn lp
    rw [far, List.length_append, List.length_append, rep_len]
    omega
  have fabc : ∀ n, Abc (far h p t n) := fun n => (ah.app (ap.rep n)).app at'
  refine ⟨_, pss_cons (ps_expr (pe_c (c_check_depth C) hr (by decide) (by rfl) (pa_cons (pv 0) pa_nil)))
    (pss_cons (ps_expr (pe_c (c_check_text C) hr (by decide) (by rfl) (pa_cons (pv 1) pa_nil)))
    (pss_cons (ps_expr (pe_c (c_check_text C) hr (by decide) (by rfl) (pa_cons (pv 2) pa_nil)))
    (pss_cons (ps_expr (pe_c (c_check_text C) hr (by decide) (by rfl) (pa_cons (pv 3) pa_nil)))
    (pss_cons (ps_par (i := 4) (j := 5) rfl nd rfl rfl (by decide) rfl rfl (pa_cons (pe_c (c_least_form_of C) hr (by decide) (by rfl) (pa_cons (pv 0) (pa_cons (pe_op op_add_str (pe_op op_add_str (pv 1) (pe_op op_mulS (pv 2) (pv 0))) (pv 3)) pa_nil))) (pa_cons (pv 0) pa_nil)) rfl)
    (pss_cons (ps_while PassesOwn.never (PW.pt (pw_and (pt_cmpR op_gt (pv 5) pe_int (nomark _)) (pw_and1 (pt_cmpR op_eq (pe_c (c_least_form_of C) hr (by decide) (by rfl) (pa_cons (pv 0) (pa_cons (pe_op op_add_str (pe_op op_add_str (pv 1) (pe_op op_mulS (pv 2) (pe_op op_sub (pv 5) pe_int))) (pv 3)) pa_nil))) (pv 4) (nomark _)))))
      (pss_one (ps_set (i := 5) nd rfl (Or.inl rfl) (pe_op op_sub (pv 5) pe_int))))
    (pss_one (ps_ret (pv 5)))))))), ?_⟩
  refine ⟨_, rfl, d, rfl, tV h, rfl, h, rfl, by omega, ah.lo, tV p, rfl, p, rfl, by omega, ap.lo, tV t, rfl, t, rfl, by omega, at'.lo, ?_⟩
  have fl := fun n hn => flen n hn
  refine ⟨_, rfl, tV h, rfl, tV p, rfl, _, rfl, p, d, rfl, rfl, by omega, by omega, S h, S (rep p d), rfl, rfl, ?_, ?_⟩
  · have := flen d hd
    rw [far, List.length_append, List.length_append] at this
    rw [S_len, S_len]
    exact small (by omega)
  refine ⟨tV t, rfl, _, S t, rfl, rfl, ?_, d, far h p t d, ?_, by have := flen d hd; omega, fabc d, fun l H1 s1 f1 => ?_⟩
  · have := flen d hd
    rw [far, List.length_append, List.length_append] at this
    rw [S_cat, S_len, S_len, List.length_append]
    exact small (by omega)
  · rw [S_cat, S_cat]
    rfl
  refine ⟨_, rfl, _, _, rfl, ?_⟩
  refine ⟨fun m σ H' => ∃ v, σ = [some (.int ((d : Nat) : Int)), some (tV h), some (tV p), some (tV t), some (tV l), v] ∧ v = some (.int ((m : Nat) : Int)) ∧ Same H H' ∧ m ≤ d ∧ ∀ j, m ≤ j → j ≤ d → Alike d (far h p t j) (far h p t d),
    ⟨d, _, rfl, rfl, s1, Nat.le_refl _, fun j h1 h2 => by rw [Nat.le_antisymm h2 h1]; exact Alike.refl d _⟩, fun m σ H' w => ?_⟩
  obtain ⟨v, rfl, rfl, sm, hm, on⟩ := w
  refine ⟨_, rfl, _, _, rfl, rfl, _, rfl, ?_⟩
  by_cases hm0 : m = 0
  · subst hm0
    rw [decide_eq_false (show ¬ (0 : Int) < ((0 : Nat) : Int) by decide)]
    refine iteF (iteF ?_)
    exact ⟨_, rfl, q 0 H' sm ⟨Nat.zero_le _, on, .inl rfl⟩⟩
  · rw [decide_eq_true (show (0 : Int) < ((m : Nat) : Int) by omega)]
    refine iteT ?_
    have em : ((m : Nat) : Int) - 1 = ((m - 1 : Nat) : Int) := by omega
    refine ⟨_, rfl, tV h, rfl, tV p, rfl, _, rfl, _, _, rfl, rfl, p, m - 1, rfl, congrArg V.int em, by omega, by omega, S h, S (rep p (m - 1)), rfl, rfl, ?_, ?_⟩
    · have := flen (m - 1) (by omega)
      rw [far, List.length_append, List.length_append] at this
      rw [S_len, S_len]
      exact small (by omega)
    refine ⟨tV t, rfl, _, S t, rfl, rfl, ?_, d, far h p t (m - 1), ?_, by have := flen (m - 1) (by omega); omega, fabc (m - 1), fun l2 H2 s2 f2 => ?_⟩
    · have := flen (m - 1) (by omega)
      rw [far, List.length_append, List.length_append] at this
      rw [S_cat, S_len, S_len, List.length_append]
      exact small (by omega)
    · rw [S_cat, S_cat]
      rfl
    refine ⟨tV l, rfl, rfl, _, rfl, ?_⟩
    by_cases e : l2 = l
    · rw [decide_eq_true (show tV l2 = tV l by rw [e])]
      refine iteT ?_
      refine ⟨fun σ' H3 => ∃ m', m' < m ∧ ∃ v, σ' = [some (.int ((d : Nat) : Int)), some (tV h), some (tV p), some (tV t), some (tV l), v] ∧ v = some (.int ((m' : Nat) : Int)) ∧ Same H H3 ∧ m' ≤ d ∧ ∀ j, m' ≤ j → j ≤ d → Alike d (far h p t j) (far h p t d), fun _ _ z => z, ?_⟩
      refine ⟨_, rfl, _, _, rfl, rfl, m - 1, by omega, _, rfl, congrArg (fun z => some (V.int z)) em, sm.trans s2, by omega, fun j h1 h2 => ?_⟩
      by_cases hj : j = m - 1
      · rw [hj]
        exact (f2.eq_iff f1).mp e
      · exact on j (by omega) h2
    · rw [decide_eq_false (show ¬ tV l2 = tV l from fun z => e (S_inj (V.str.inj z)))]
      refine iteF ?_
      exact ⟨_, rfl, q m H2 (sm.trans s2) ⟨hm, on, .inr fun z => e ((f2.eq_iff f1).mpr z)⟩⟩
end
end Sk
end
section
set_option autoImplicit false
namespace Sk
/-! what is read: the leftmost reading -/
/-- how many letters stand ahead of the first c -/
def fst : Tx → Nat → Nat
  | [], _ => 0
  | d :: s, c => if c = d then 0 else fst s c + 1
theorem fst_cut : ∀ (s : Tx) (c : Nat), c ∈ s → ∃ m, s = m ++ c :: s.drop (fst s c + 1) ∧ c ∉ m ∧ m.length = fst s c
  | [], _, h => by cases h
  | d :: s, c, h => by
    by_cases e : c = d
    · subst e
      refine ⟨[], ?_, List.not_mem_nil, ?_⟩
      · rw [fst, if_pos rfl]
        rfl
      · rw [fst, if_pos rfl]
        rfl
    · have h1 : c ∈ s := by
        rcases List.mem_cons.mp h with z | z
        · exact absurd z e
        · exact z
      obtain ⟨m, h2, h3, h4⟩ := fst_cut s c h1
      rw [fst, if_neg e]
      refine ⟨d :: m, ?_, ?_, ?_⟩
      · rw [List.drop_succ_cons, List.cons_append, ← h2]
      · intro z
        rcases List.mem_cons.mp z with z | z
        · exact e z
        · exact h3 z
      · rw [List.length_cons, h4]
/-- the rest behind the leftmost reading -/
def left : Tx → Tx → Option Tx
  | [], s => some s
  | c :: w, s => if c ∈ s then left w (s.drop (fst s c + 1)) else none
theorem left_snoc : ∀ (w : Tx) (c : Nat) (s : Tx), left (w ++ [c]) s = (left w s).bind fun r => if c ∈ r then some (r.drop (fst r c + 1)) else none
  | [], c, s => rfl
  | d :: w, c, s => by
    rw [List.cons_append, left, left]
    by_cases h : d ∈ s
    · rw [if_pos h, if_pos h, left_snoc w c]
    · rw [if_neg h, if_neg h]
      rfl
theorem left_some : ∀ (w s : Tx), (left w s).isSome = true ↔ w.Sublist s
  | [], s => by simp [left]
  | c :: w, s => by
    rw [left]
    by_cases h : c ∈ s
    · rw [if_pos h, left_some w]
      obtain ⟨m, h1, h2, h3⟩ := fst_cut s c h
      constructor
      · intro z
        rw [h1]
        exact (z.cons_cons c).trans (List.sublist_append_right m _)
      · intro z
        rw [h1] at z
        exact List.cons_sublist_cons.mp (unapp h2 z)
    · rw [if_neg h]
      constructor
      · intro z
        cases z
      · intro z
        exact absurd (z.subset (List.mem_cons_self ..)) h
theorem left_suffix : ∀ (w s r : Tx), left w s = some r → ∃ k, r = s.drop k ∧ k + r.length = s.length
  | [], s, r, h => by
    have : s = r := Option.some.inj h
    subst this
    exact ⟨0, rfl, by omega⟩
  | c :: w, s, r, h => by
    rw [left] at h
    by_cases hc : c ∈ s
    · rw [if_pos hc] at h
      obtain ⟨k, h1, h2⟩ := left_suffix w _ r h
      rw [List.drop_drop] at h1
      refine ⟨_, h1, ?_⟩
      obtain ⟨m, h3, h4, h5⟩ := fst_cut s c hc
      have h6 : s.length = m.length + ((s.drop (fst s c + 1)).length + 1) := by
        have := congrArg List.length h3
        rw [List.length_append, List.length_cons] at this
        exact this
      omega
    · rw [if_neg hc] at h
      cases h
/-- the words that are read, with the places behind them -/
def lvOf (t : Tx) (w : Tx) : Option (Tx × Nat) := (left w t).map fun r => (w, t.length - r.length)
theorem lvOf_snoc {t w r : Tx} {c : Nat} (h : left w t = some r) : lvOf t (w ++ [c]) = if c ∈ r then some (w ++ [c], (t.length - r.length) + fst r c + 1) else none := by
  rw [lvOf, left_snoc, h]
  show ((if c ∈ r then some (r.drop (fst r c + 1)) else none).map fun r => (w ++ [c], t.length - r.length)) = _
  by_cases hc : c ∈ r
  · rw [if_pos hc, if_pos hc]
    obtain ⟨k, h1, h2⟩ := left_suffix w t r h
    obtain ⟨m, h3, h4, h5⟩ := fst_cut r c hc
    have h6 : r.length = m.length + ((r.drop (fst r c + 1)).length + 1) := by
      have := congrArg List.length h3
      rw [List.length_append, List.length_cons] at this
      exact this
    show some (w ++ [c], t.length - (r.drop (fst r c + 1)).length) = _
    refine congrArg some (congrArg (Prod.mk (w ++ [c])) ?_)
    omega
  · rw [if_neg hc, if_neg hc]
    rfl
theorem lvOf_none {t w : Tx} {c : Nat} (h : left w t = none) : lvOf t (w ++ [c]) = none := by
  rw [lvOf, left_snoc, h]
  rfl
/-- one level on -/
def more (L t : Tx) (q : Tx × Nat) : List (Tx × Nat) := (L.filter fun c => decide (c ∈ t.drop q.2)).map fun c => (q.1 ++ [c], q.2 + fst (t.drop q.2) c + 1)
theorem more_eq {L t w : Tx} {q : Tx × Nat} (h : lvOf t w = some q) : L.filterMap (fun c => lvOf t (w ++ [c])) = more L t q := by
  obtain ⟨r, hr, e⟩ : ∃ r, left w t = some r ∧ (w, t.length - r.length) = q := by
    rw [lvOf] at h
    cases hl : left w t with
    | none =>
      rw [hl] at h
      cases h
    | some r =>
      rw [hl] at h
      exact ⟨r, rfl, Option.some.inj h⟩
  subst e
  obtain ⟨k, h1, h2⟩ := left_suffix w t r hr
  have ek : t.length - r.length = k := by omega
  unfold more
  simp only [ek, ← h1]
  have key : ∀ L : Tx, L.filterMap (fun c => lvOf t (w ++ [c])) = (L.filter fun c => decide (c ∈ r)).map fun c => (w ++ [c], k + fst r c + 1) := by
    intro L
    induction L with
    | nil => rfl
    | cons c L ih =>
      rw [List.filterMap_cons, lvOf_snoc hr, ek, ih, List.filter_cons]
      by_cases hc : c ∈ r
      · rw [if_pos hc, if_pos (decide_eq_true hc)]
        rfl
      · rw [if_neg hc, if_neg (by simp [hc])]
  exact key L
theorem more_all (L t : Tx) : ∀ ws : List Tx, (ws.flatMap fun u => L.map fun c => u ++ [c]).filterMap (lvOf t) = (ws.filterMap (lvOf t)).flatMap (more L t)
  | [] => rfl
  | u :: ws => by
    rw [List.flatMap_cons, List.filterMap_append, more_all L t ws, List.filterMap_cons, List.filterMap_map]
    have e : (lvOf t ∘ fun c => u ++ [c]) = fun c => lvOf t (u ++ [c]) := rfl
    rw [e]
    cases h : lvOf t u with
    | some q =>
      rw [more_eq h]
      rfl
    | none =>
      have hl : left u t = none := by
        rw [lvOf] at h
        cases hl : left u t with
        | none => rfl
        | some r =>
          rw [hl] at h
          cases h
      have : L.filterMap (fun c => lvOf t (u ++ [c])) = [] := by
        refine List.filterMap_eq_nil_iff.mpr fun c _ => lvOf_none hl
      rw [this]
      rfl
/-- is it read -/
def isRead (t w : Tx) : Bool := (left w t).isSome
theorem isRead_iff {t w : Tx} : isRead t w = true ↔ w.Sublist t := left_some w t
theorem lv_words (t : Tx) : ∀ ws : List Tx, (ws.filterMap (lvOf t)).map Prod.fst = ws.filter (isRead t)
  | [] => rfl
  | w :: ws => by
    have ih := lv_words t ws
    rw [List.filterMap_cons, List.filter_cons, isRead]
    unfold lvOf at ih ⊢
    cases h : left w t with
    | none => exact ih
    | some r => exact congrArg (List.cons w) ih
end Sk
end
section
set_option Elab.async false
set_option linter.all false
set_option maxRecDepth 100000
set_option maxHeartbeats 4000000
namespace Sk
open PySem PySem.Spec PyProof.Rows L2 SX C8
/-- a list comprehension whose values are known -/
theorem lc_vals {J : It} {n : Nat} {G : Hp → Prop} {Y : Nat → Hp → V → Hp → Prop} (w : Walk J n G Y) {xs : List V} (hn : xs.length = n) (hz : n ≤ 1000) {g : TG} {tt : TT} {te : TE} {vs : List Nat} {σ : L2.St} {H0 : Hp} {D : Addr} {Qd : Hp → Prop} (hD : H0 D = none) (hG : ∀ H1, Same H0 H1 → G H1)
    (hs : ∀ i v x H1 H2, xs[i]? = some v → i < n → Same H0 H1 → Y i H1 x H2 → Same H1 H2 ∧ ∀ (R : VK) (E : Hp → Prop), (∀ H3, Same H2 H3 → R v H3) → g x (wipe σ vs) H2 fun σ2 H3 => wipe σ2 vs = wipe σ vs ∧ tt σ2 H3 fun b H4 => if b = true then te σ2 H4 R else E H4)
    (hd : ∀ H', Same H0 H' → H' D = some (.lst xs) → Qd H') :
    ∃ W : Nat → Nat → Hp → Prop, (∃ m, W 0 m (upd H0 D (.lst []))) ∧ ∀ i m H, W i m H → (J.stop i H ∧ Qd H) ∨ (J.go i H ∧ ∃ Nx : Hp → Prop, (∀ H', Nx H' → ∃ m', m' < m ∧ W (i + 1) m' H') ∧ ∀ x H', J.yld i H x H' →
      g x (wipe σ vs) H' fun σ2 H2 => wipe σ2 vs = wipe σ vs ∧ tt σ2 H2 fun b H3 => if b = true then te σ2 H3 fun y H4 => ∃ acc, H4 D = some (.lst acc) ∧ acc.length < sizeLine ∧ Nx (upd H4 D (.lst (acc ++ [y]))) else Nx H3) := by
  refine it_go w (Body := fun x H' Nx => g x (wipe σ vs) H' fun σ2 H2 => wipe σ2 vs = wipe σ vs ∧ tt σ2 H2 fun b H3 => if b = true then te σ2 H3 fun y H4 => ∃ acc, H4 D = some (.lst acc) ∧ acc.length < sizeLine ∧ Nx (upd H4 D (.lst (acc ++ [y]))) else Nx H3)
    (fun i H1 => Same H0 H1 ∧ H1 D = some (.lst (xs.take i))) ⟨sm_new hD _, upd_same⟩ (fun i H1 _ p => hG H1 p.1) (fun i x H1 H2 hi p y => ?_) (fun H1 p => hd H1 p.1 (by rw [p.2, ← hn, List.take_length]))
  have hx : xs[i]? = some xs[i] := List.getElem?_eq_getElem (by omega)
  obtain ⟨s1, hb⟩ := hs i xs[i] x H1 H2 hx hi p.1 y
  refine hb _ _ fun H3 s3 => ⟨_, s3 _ _ (s1 _ _ p.2), ?_, ((p.1.trans s1).trans s3).mut hD _, ?_⟩
  · rw [List.length_take]
    exact small1000 (by omega)
  · rw [upd_same, List.take_add_one, hx]
    rfl
/-- the dict of the next places from k on -/
def plV (t : Tx) (k : Nat) (c : Nat) : V := .int ((k + fst (t.drop k) c : Nat) : Int)
def RowAt (H : Hp) (t : Tx) (k : Nat) (a : Addr) : Prop := ∃ ks : List Nat, ks.Nodup ∧ (∀ c, c ∈ ks ↔ c ∈ t.drop k) ∧ H a = some (.dK (dk k1 ks (plV t k)))
theorem RowAt.same {H H' : Hp} {t : Tx} {k : Nat} {a : Addr} (s : Same H H') (h : RowAt H t k a) : RowAt H' t k a := by
  obtain ⟨ks, h1, h2, h3⟩ := h
  exact ⟨ks, h1, h2, s _ _ h3⟩
theorem RowAt.upd_lst {H : Hp} {t : Tx} {k : Nat} {a b : Addr} {xs : List V} {o : HO} (h : RowAt H t k a) (hb : H b = some (.lst xs)) : RowAt (upd H b o) t k a := by
  obtain ⟨ks, h1, h2, h3⟩ := h
  exact ⟨ks, h1, h2, by rw [upd_ne (ne_of h3 hb (by intro z; cases z))]; exact h3⟩
theorem RowAt.ne {H H0 : Hp} {t : Tx} {k : Nat} {a b : Addr} (h : RowAt H t k a) (hb : H b = none) : a ≠ b := by
  obtain ⟨ks, h1, h2, h3⟩ := h
  exact ne_of_none h3 hb
theorem drop_cons {t : Tx} {k c : Nat} (h : t[k]? = some c) : t.drop k = c :: t.drop (k + 1) := by
  obtain ⟨h1, h2⟩ := List.getElem?_eq_some_iff.mp h
  rw [List.drop_eq_getElem_cons h1, h2]
def RowsAt (H : Hp) (t : Tx) (ds : List Addr) : Prop := ds.length = t.length + 1 ∧ ∀ (i : Nat) (a : Addr), ds[i]? = some a → RowAt H t i a
theorem RowsAt.same {H H' : Hp} {t : Tx} {ds : List Addr} (s : Same H H') (h : RowsAt H t ds) : RowsAt H' t ds := ⟨h.1, fun i a e => (h.2 i a e).same s⟩
section
variable {P : Program} {w : World} {K : PySem.W.Frag} {mg : Str → Option Value} {base : Heap}
theorem scPlacesAhead : FnScope ["text", "row", "found", "at", "letter"] ["text"] (defScope sPlacesAhead) := fnScope_by (by decide +kernel)
def spPlacesAhead : Sp := fun vs H Q _ => ∃ (t : Tx), vs = [tV t] ∧ t.length ≤ 300 ∧ ∀ (p : Addr) (ds : List Addr) (H' : Hp), H p = none → Same H H' → H' p = some (.lst (ds.map V.ref)) → RowsAt H' t ds → Q (.ref p) H'
theorem c_places_ahead (C : Ctx K mg) : Cal P w K mg base 1 "places_ahead" spPlacesAhead [] := by
  refine (fPlacesAhead C).cal scPlacesAhead (fun _ _ _ _ _ _ us hl => match us, hl with | [_], _ => rfl) (fun vs H Q E h => ?_) (fun cdv A outer s H vs Q E hr h => ?_)
  · obtain ⟨t, rfl, _⟩ := h
    rfl
  obtain ⟨t, rfl, ht, q⟩ := h
  have hu := hu_of hr
  have nd := scPlacesAhead.nd
  refine ⟨_, pss_cons (ps_set (i := 1) nd rfl (Or.inr rfl) pe_dnewK)
    (pss_cons (ps_set (i := 2) nd rfl (Or.inl rfl) (pe_lst (pa_cons (pv 1) pa_nil)))
    (pss_cons (ps_for PassesOwn.never rfl (pi_range3 rfl (b_range C) (pa_cons (pe_op op_sub (pe_callB call_len_str (by rfl) (b_len C) boot_len (pa_cons (pv 0) pa_nil)) pe_int) (pa_cons (pe_un un_neg pe_int) (pa_cons (pe_un un_neg pe_int) pa_nil)))) (pg_name (i := 3) nd rfl (Or.inl rfl))
      (pss_cons (ps_set (i := 1) nd rfl (Or.inr rfl) (pe_lock (pe_dc (own := [("letter", 4)]) (g := gName 4) (by rfl) nd (pi_keys (pv 1))
          (blkOk_by (own := [("letter", 4)]) (N := ["text", "row", "found", "at", "letter"]) (sc := defScope sPlacesAhead) (by decide +kernel))
          (fun _ _ _ _ _ => pg_name (i := 4) nd rfl (Or.inl rfl)) (fun _ _ _ _ _ => pts_nil) (fun _ _ _ _ _ => pv 4)
          (fun _ _ _ _ _ => pe_dget hu (pv 1) (pv 4) (fun _ _ => rfl)))))
      (pss_cons (ps_dput hu (pv 1) (pe_ix ix_str (pv 0) (pv 3) (fun _ _ => rfl)) (pv 3) rfl)
      (pss_one (ps_expr (pe_bm PySem.F.plainAttrs_list PySem.F.slot_list_append PySem.F.type_list_append mt_append (pv 2) (pa_cons (pv 1) pa_nil)))))))
    (pss_cons (ps_expr (pe_bm0 PySem.F.plainAttrs_list PySem.F.slot_list_reverse PySem.F.type_list_reverse mt_reverse (pv 2)))
    (pss_one (ps_ret (pv 2)))))), ?_⟩
  intro d0 hd0
  refine ⟨.ref d0, rfl, by show 1 ≤ sizeLine; decide, fun a ha => ?_⟩
  have nad : a ≠ d0 := fun e => by
    rw [e, upd_same] at ha
    cases ha
  have ha0 : H a = none := by rwa [upd_ne nad] at ha
  have s1 : Same H (upd (upd H d0 (.dK [])) a (.lst [.ref d0])) := (sm_new hd0 _).trans (sm_new ha _)
  refine ⟨tV t, rfl, S t, rfl, smallT (by omega), _, _, rfl, rfl, 1, rfl, 1, rfl, _, _, -1, _, rfl, RgC.neg (by rw [S_len]; omega) (by rw [S_len]; omega) (by decide) (by decide), for_go walk_rangeC (fun i σ H' => ∃ (d : Addr) (es : List Addr) (v : Option V),
      σ = [some (tV t), some (.ref d), some (.ref a), v, none] ∧ Same H H' ∧ H d = none ∧ es.length = i ∧ (∀ (j : Nat) (b : Addr), (es ++ [d])[j]? = some b → RowAt H' t (t.length - j) b) ∧ H' a = some (.lst ((es ++ [d]).map V.ref)))
    ⟨d0, [], none, rfl, s1, hd0, rfl, fun j b e => ?_, upd_same⟩ (fun _ _ _ _ _ => trivial) (fun i x σ H2 H3 hi p y => ?_) (fun σ H' p => ?_)⟩
  · have hj : j = 0 := by
      have := (List.getElem?_eq_some_iff.mp e).1
      simp at this
      omega
    subst hj
    obtain rfl : d0 = b := Option.some.inj e
    exact ⟨[], List.nodup_nil, fun c => by simp, by rw [upd_ne nad.symm, upd_same]; rfl⟩
  · obtain ⟨d, es, v, rfl, sm, nd4, he, hR, hA⟩ := p
    obtain ⟨rfl, hx⟩ := y
    rw [S_len] at hi hx
    have hi : i < t.length := by omega
    have hk : t.length - i = (t.length - 1 - i) + 1 := by omega
    obtain ⟨ks, k1', k2, k3⟩ := hR i d (by rw [List.getElem?_append_right (by omega), he, Nat.sub_self]; rfl)
    rw [hk] at k2 k3
    generalize hkk : t.length - 1 - i = k at hk k2 k3
    have ev : ((t.length : Nat) : Int) - 1 + ((i : Nat) : Int) * -1 = ((k : Nat) : Int) := by omega
    replace hx : x = V.int ((k : Nat) : Int) := hx.trans (congrArg V.int ev)
    subst hx
    have hkl : k < t.length := by omega
    obtain ⟨c, hc⟩ : ∃ c, t[k]? = some c := ⟨t[k], List.getElem?_eq_getElem hkl⟩
    have hc' : (S t).cps.toList[k]? = some c := hc
    have hksl : ks.length ≤ 300 := by
      have := nodup_len ks (t.drop (k + 1)) k1' fun z hz => (k2 z).mp hz
      rw [List.length_drop] at this
      omega
    have nda : d ≠ a := ne_of k3 hA (by intro z; cases z)
    refine comp_dict (α := Nat) (κ := k1) k1_inj (g := plV t (k + 1)) rfl k3 k1' (by omega) (fun _ => rfl) (by show 4 < 5; decide) (fun od z n H3 hz s3 Q2 q2 => ?_) (fun D H3 nD s3 hD => ?_)
    · exact ⟨.ref d, rfl, kV (k1 z), rfl, d, _, rfl, .inl ⟨_, k1 z, .inr ⟨od, s3 _ _ upd_same⟩, rfl, ((val_dk k1_inj z _ ks).trans (if_pos (List.mem_of_getElem? hz))).symm⟩, q2 H3 (Same.refl _)⟩
    · have nDa : D ≠ a := (ne_of_none hA nD).symm
      refine ⟨.int ((k : Nat) : Int), rfl, .ref D, rfl, tV t, rfl, .int ((k : Nat) : Int), rfl, S t, ((k : Nat) : Int), c, rfl, rfl, smallT (by omega), atI_nat hc', D, _, rfl, DPut.k (k := k1 c) hD (by rw [dk_len]; exact small1000 (by omega)), ?_⟩
      rw [put_dk k1_inj]
      have sM := s3.mut nD (HO.dK (dk k1 (ins ks c) fun z => if z = c then V.int ((k : Nat) : Int) else plV t (k + 1) z))
      have hA3 := sM _ _ hA
      refine ⟨.ref a, rfl, .inl ⟨rfl, _, sq hA3⟩, .ref D, rfl, a, _, _, rfl, rfl, hA3, ?_, D, es ++ [d], _, rfl, (sm.trans sM).mut ha0 _, sm.free nD, by rw [List.length_append, he]; rfl, fun j b e => ?_, ?_⟩
      · rw [List.length_map, List.length_append, he]
        exact small1000 (by simp; omega)
      · refine RowAt.upd_lst ?_ hA3
        by_cases hj : j < (es ++ [d]).length
        · rw [List.getElem?_append_left hj] at e
          exact (hR j b e).same sM
        · rw [List.getElem?_append_right (by omega)] at e
          have hl : (es ++ [d]).length = i + 1 := by rw [List.length_append, he]; rfl
          have hj2 : j = i + 1 := by
            have := (List.getElem?_eq_some_iff.mp e).1
            simp at this
            omega
          subst hj2
          rw [hl, Nat.sub_self] at e
          obtain rfl : D = b := Option.some.inj e
          have ek : t.length - (i + 1) = k := by omega
          rw [ek]
          have hdc := drop_cons hc
          refine ⟨ins ks c, ins_nodup k1', fun z => ?_, ?_⟩
          · rw [ins_mem, k2, hdc, List.mem_cons, Or.comm]
          · rw [upd_same]
            refine congrArg (fun z => some (HO.dK z)) (dk_congr fun z hz => ?_)
            unfold plV
            rw [hdc, fst]
            by_cases e2 : z = c
            · rw [if_pos e2, if_pos e2]
              rfl
            · rw [if_neg e2, if_neg e2]
              exact congrArg V.int (by omega)
      · rw [upd_same]
        simp
  · obtain ⟨d, es, v, rfl, sm, nd4, he, hR, hA⟩ := p
    have he : es.length = t.length := by rw [he, S_len]; omega
    refine ⟨.ref a, rfl, .inl ⟨rfl, _, sq hA⟩, a, _, rfl, rfl, hA, .ref a, rfl, q a (es ++ [d]).reverse _ ha0 (sm.mut ha0 _) ?_ ⟨by rw [List.length_reverse, List.length_append, he]; rfl, fun i b e => ?_⟩⟩
    · rw [upd_same, List.map_reverse]
    · have hl : (es ++ [d]).length = t.length + 1 := by rw [List.length_append, he]; rfl
      have hi : i < t.length + 1 := by
        have := (List.getElem?_eq_some_iff.mp e).1
        rwa [List.length_reverse, hl] at this
      rw [List.getElem?_reverse (by omega), hl] at e
      have := hR _ b e
      rw [show t.length - (t.length + 1 - 1 - i) = i by omega] at this
      exact this.upd_lst hA
end
end Sk
end
section
set_option autoImplicit false
namespace Sk
open PySem PySem.Spec PyProof.Rows
def oneS (c : Nat) : Str := ⟨#[c]⟩
theorem oneS_inj {a b : Nat} (h : oneS a = oneS b) : a = b := by
  have h1 : (#[a] : Array Nat) = #[b] := congrArg Str.cps h
  have h2 : [a] = [b] := congrArg Array.toList h1
  injection h2
theorem rising_one : ∀ (zs : List Nat) (p : Nat), risingS (oneS p) (zs.map oneS) = true → (p :: zs).Pairwise (· ≤ ·)
  | [], p, _ => by simp
  | x :: r, p, h => by
    have h0 : (!ltCps (oneS x).cps.toList (oneS p).cps.toList && risingS (oneS x) (r.map oneS)) = true := h
    rw [Bool.and_eq_true] at h0
    have h1 : p ≤ x := by
      have e : ltCps (oneS x).cps.toList (oneS p).cps.toList = decide (x < p) := by
        show (decide (x < p) || (x == p && ltCps [] [])) = _
        simp [ltCps]
      rw [e] at h0
      have := h0.1
      simp at this
      exact this
    have h2 := rising_one r x h0.2
    refine List.pairwise_cons.mpr ⟨fun y hy => ?_, h2⟩
    rcases List.mem_cons.mp hy with rfl | hm
    · exact h1
    · exact Nat.le_trans h1 ((List.pairwise_cons.mp h2).1 y hm)
theorem sorted_map_one : ∀ zs : List Nat, sortedS (zs.map oneS) = true → zs.Pairwise (· ≤ ·)
  | [], _ => List.Pairwise.nil
  | x :: r, h => rising_one r x h
theorem sorted_one {ys : List Str} {ks L s : List Nat} (hp : ys.Perm (ks.map oneS)) (nd : ks.Nodup) (mem : ∀ c, c ∈ ks ↔ c ∈ s) (sub : ∀ c ∈ s, c ∈ L) (nL : L.Nodup) (oL : L.Pairwise (· ≤ ·)) (hs : sortedS ys = true) :
    ys = (L.filter fun c => decide (c ∈ s)).map oneS := by
  have e1 : ys = (ys.map fun z => z.cps.toList.headD 0).map oneS := by
    rw [List.map_map]
    refine (List.map_id' ys).symm.trans (List.map_congr_left fun y hy => ?_)
    obtain ⟨c, _, rfl⟩ := List.mem_map.mp (hp.subset hy)
    rfl
  have e2 : (ys.map fun z => z.cps.toList.headD 0).Perm ks := by
    have := hp.map fun z => z.cps.toList.headD 0
    rw [List.map_map] at this
    have e : ks.map ((fun z : Str => z.cps.toList.headD 0) ∘ oneS) = ks := (List.map_congr_left fun _ _ => rfl).trans (List.map_id' ks)
    rwa [e] at this
  rw [e1] at hs ⊢
  refine congrArg (List.map oneS) ?_
  refine List.Perm.eq_of_pairwise (le := fun a b => a ≤ b) (fun a b _ _ h1 h2 => Nat.le_antisymm h1 h2) (sorted_map_one _ hs) (oL.sublist List.filter_sublist) (e2.trans ?_)
  refine (List.perm_ext_iff_of_nodup nd (nL.sublist List.filter_sublist)).mpr fun c => ?_
  rw [mem, List.mem_filter, decide_eq_true_eq]
  exact ⟨fun h => ⟨sub c h, h⟩, fun h => h.2⟩
end Sk
end
section
set_option Elab.async false
set_option linter.all false
set_option maxRecDepth 100000
set_option maxHeartbeats 4000000
namespace Sk
open PySem PySem.Spec PyProof.Rows L2 SX C8
/-- a list comprehension over a dict's keys, the dict read -/
theorem comp_keys {α : Type} {κ : α → Key} {σ : L2.St} {H : Hp} {i j : Nat} {vs : List Nat} {te : TE} {d : Addr} {ks : List α} {f : α → V} {xs : List V} {Q : VK}
    (hσ : σ[i]? = some (some (.ref d))) (hd : H d = some (.dK (dk κ ks f))) (hk : ks.length ≤ 1000) (hl : xs.length = ks.length) (hw : ∀ x, wipe ((wipe σ vs).set j (some x)) vs = wipe σ vs) (hj : j < σ.length)
    (he : ∀ (od : Obj) (a : α) (v : V) (n : Nat) H2, ks[n]? = some a → xs[n]? = some v → Same (upd H d (.frz od (.dK (dk κ ks f)))) H2 → ∀ Q2 : VK, (∀ H3, Same H2 H3 → Q2 v H3) → te ((wipe σ vs).set j (some (kV (κ a)))) H2 Q2)
    (q : ∀ p H', H p = none → Same H H' → H' p = some (.lst xs) → Q (.ref p) H') :
    tLockE (tLc (iKeys (tVar i)) (gName j) tYes te vs) σ H Q := by
  refine ⟨d, _, hd, trivial, fun od => ?_⟩
  refine ⟨.ref d, hσ, d, od, rfl, .inl ⟨_, upd_same, fun D hD => ?_⟩⟩
  have nDd : D ≠ d := fun z => by
    rw [z, upd_same] at hD
    cases hD
  have hD0 : H D = none := by rwa [upd_ne nDd] at hD
  refine lc_vals (walk_keys (d := d) (o := od) (kvs := dk κ ks f)) (xs := xs) (by rw [hl]; exact (List.length_map ..).symm) (by rw [show (dk κ ks f).length = ks.length from List.length_map ..]; exact hk) hD (fun H1 s1 => s1 _ _ upd_same) (fun n v x H1 H2 hx hn s1 y => ?_) (fun H' s1 hD' => ?_)
  · obtain ⟨rfl, k, v', hkv, rfl⟩ := y
    have hn2 : n < ks.length := by rwa [show (dk κ ks f).length = ks.length from List.length_map ..] at hn
    have ha : ks[n]? = some ks[n] := List.getElem?_eq_getElem hn2
    have hkv2 : (dk κ ks f)[n]? = some (κ ks[n], f ks[n]) := by
      unfold dk
      rw [List.getElem?_map, ha]
      rfl
    rw [hkv2] at hkv
    obtain ⟨rfl, rfl⟩ := Prod.mk.inj (Option.some.inj hkv)
    refine ⟨Same.refl _, fun R E hR => ⟨hw _, ?_⟩⟩
    have hlen : j < (wipe σ vs).length := by rw [wipe_length]; exact hj
    exact he od ks[n] v n _ ha hx s1 R hR
  · refine ⟨s1 _ _ upd_same, q D _ hD0 (fun b o hb => ?_) ?_⟩
    · by_cases e : b = d
      · subst e
        rw [upd_same, ← hb, hd]
      · rw [upd_ne e]
        exact s1 b o (by rw [upd_ne e]; exact hb)
    · rw [upd_ne nDd, hD']
theorem nV_sum : ∀ l : List Nat, (l.map fun n => ((n : Nat) : Int)).sum = ((l.sum : Nat) : Int)
  | [] => rfl
  | a :: l => by
    rw [List.map_cons, List.sum_cons, nV_sum l, List.sum_cons]
    omega
theorem sum_le {B : Nat} : ∀ {l : List Nat}, (∀ m ∈ l, m ≤ B) → l.sum ≤ l.length * B
  | [], _ => Nat.zero_le _
  | a :: l, h => by
    rw [List.sum_cons, List.length_cons, Nat.add_mul]
    have h1 := h a (List.mem_cons_self ..)
    have h2 := sum_le (B := B) (l := l) fun m hm => h m (List.mem_cons_of_mem _ hm)
    omega
theorem fst_lt {s : Tx} {c : Nat} (h : c ∈ s) : fst s c < s.length := by
  obtain ⟨m, h1, h2, h3⟩ := fst_cut s c h
  have := congrArg List.length h1
  rw [List.length_append, List.length_cons] at this
  omega
def mostR : Nat → Nat
  | 0 => 1
  | n + 1 => 1 + 3 * mostR n
theorem mostR_le {n : Nat} (h : n ≤ 3) : mostR n ≤ 40 := by
  have : n = 0 ∨ n = 1 ∨ n = 2 ∨ n = 3 := by omega
  rcases this with rfl | rfl | rfl | rfl <;> decide
theorem Alp.len {L : Tx} (h : Alp L) : L.length ≤ 3 := by rcases h with rfl | rfl <;> decide
theorem Alp.nodup {L : Tx} (h : Alp L) : L.Nodup := by rcases h with rfl | rfl <;> decide
theorem Alp.up {L : Tx} (h : Alp L) : L.Pairwise (· ≤ ·) := by rcases h with rfl | rfl <;> decide
section
variable {P : Program} {w : World} {K : PySem.W.Frag} {mg : Str → Option Value} {base : Heap}
theorem ixL {X : Cx} (h : X.K = K) : IxR X (rIxL K) := h ▸ ix_list
theorem crSum {X : Cx} (hc : X.calm = true) (h : X.K = K) : CallR X (.builtin "sum") (rSum K) := h ▸ cr_sum hc
theorem scHowManyReads : FnScope ["rows", "depth", "row", "_", "step", "letter"] ["rows", "depth"] (defScope sHowManyReads) := fnScope_by (by decide +kernel)
def spHowManyReads : Sp := fun vs H Q _ => ∃ (r : Addr) (ds : List Addr) (L t : Tx) (d : Nat), vs = [.ref r, .int ((d : Nat) : Int)] ∧ H r = some (.lst (ds.map V.ref)) ∧ RowsAt H t ds ∧ Alp L ∧ (∀ c ∈ t, c ∈ L) ∧ t.length ≤ 256 ∧ d ≤ 3 ∧ ∀ (m : Nat) (H' : Hp), m ≤ 40 → Same H H' → Q (.int ((m : Nat) : Int)) H'
theorem c_how_many_reads (C : Ctx K mg) : Cal P w K mg base 1 "how_many_reads" spHowManyReads [] := by
  refine (fHowManyReads C).cal scHowManyReads (fun _ _ _ _ _ _ us hl => match us, hl with | [_, _], _ => rfl) (fun vs H Q E h => ?_) (fun cdv A outer s H vs Q E hr h => ?_)
  · obtain ⟨r, ds, L, t, d, rfl, _⟩ := h
    rfl
  obtain ⟨r, ds, L, t, d, rfl, hr0, hR, hL, htL, ht, hd, q⟩ := h
  have hu := hu_of hr
  have nd := scHowManyReads.nd
  refine ⟨_, pss_cons (ps_set (i := 2) nd rfl (Or.inr rfl) (pe_op op_rep (pe_lst (pa_cons pe_int pa_nil)) (pe_callB call_len_seq (by rfl) (b_len C) boot_len (pa_cons (pv 0) pa_nil))))
    (pss_cons (ps_for PassesOwn.never rfl (pi_range1 rfl (b_range C) (pa_cons (pe_callB (call_min2 rfl) (by rfl) (b_min C) boot_min (pa_cons (pv 1) (pa_cons (pe_op op_sub (pe_callB call_len_seq (by rfl) (b_len C) boot_len (pa_cons (pv 0) pa_nil)) pe_int) pa_nil))) pa_nil)) (pg_name (i := 3) nd rfl (Or.inl rfl))
      (pss_one (ps_set (i := 2) nd rfl (Or.inr rfl) (pe_lc (own := [("step", 4)]) (g := gName 4) (by rfl) nd (pi_list (pv 0))
          (blkOk_by (own := [("step", 4)]) (N := ["rows", "depth", "row", "_", "step", "letter"]) (sc := defScope sHowManyReads) (by decide +kernel))
          (fun _ _ _ _ _ => pg_name (i := 4) nd rfl (Or.inr rfl)) (fun _ _ _ _ _ => pts_nil)
          (fun _ _ _ _ _ => pe_op op_add pe_int (pe_callB (crSum (K := K) rfl rfl) (by rfl) (b_sum C) boot_sum (pa_cons (pe_lock (pe_lc (own := [("letter", 5)]) (g := gName 5) (by rfl) nd (pi_keys (pv 4))
            (blkOk_by (own := [("letter", 5)]) (N := ["rows", "depth", "row", "_", "step", "letter"]) (sc := { kind := .function, names := [(".0", .local), ("step", .cell), ("sum", .globalImplicit), ("row", .cell)], isGenerator := false, isCoroutine := false }) (by decide +kernel))
            (fun _ _ _ _ _ => pg_name (i := 5) nd rfl (Or.inl rfl)) (fun _ _ _ _ _ => pts_nil)
            (fun _ _ _ _ _ => pe_ix (ixL (K := K) rfl) (pv 2) (pe_op op_add (pe_dget hu (pv 4) (pv 5) (fun _ _ => rfl)) pe_int) (fun _ _ => rfl)))) pa_nil)))))))
    (pss_one (ps_ret (pe_ix ix_list (pv 2) pe_int (fun _ _ => rfl))))), ?_⟩
  refine ⟨by show 1 ≤ sizeLine; decide, fun p1 hp1 => ?_⟩
  have s1 := sm_new hp1 (.lst [.int 1])
  refine ⟨.ref r, rfl, r, _, rfl, .inl (sq (s1 _ _ hr0)), p1, _, [.int 1], rfl, rfl, upd_same, by omega, ?_, ?_, fun p2 hp2 => ?_⟩
  · rw [List.length_map, hR.1]
    omega
  · rw [List.length_map, hR.1]
    exact small (by show 1 * _ ≤ _; omega)
  have s2 := s1.trans (sm_new hp2 (.lst (List.replicate (((ds.map V.ref).length : Nat) : Int).toNat [V.int 1]).flatten))
  refine ⟨.int ((d : Nat) : Int), rfl, .ref r, rfl, r, _, rfl, .inl (sq (s2 _ _ hr0)), _, _, rfl, rfl, _, _, rfl, _, rfl, by split <;> omega, by split <;> omega, for_range (lo := 0) (fun i σ H' => ∃ (R : Addr) (rv : List Nat) (v : Option V),
      σ = [some (.ref r), some (.int ((d : Nat) : Int)), some (.ref R), v, none, none] ∧ Same H H' ∧ H' R = some (.lst (nV rv)) ∧ rv.length = t.length + 1 ∧ ∀ m ∈ rv, m ≤ mostR i)
    ⟨p2, List.replicate (t.length + 1) 1, none, rfl, s2, ?_, List.length_replicate, fun m hm => by rw [List.eq_of_mem_replicate hm]; exact Nat.le_refl _⟩ (fun i σ H' hi p => ?_) (fun σ H' p => ?_)⟩
  · rw [upd_same, List.length_map, hR.1, List.flatten_replicate_singleton, nV, List.map_replicate]
    rfl
  · obtain ⟨R, rv, v, rfl, sm, hRv, hlen, hb⟩ := p
    refine ⟨.ref r, rfl, r, rfl, ⟨_, sq (sm _ _ hr0)⟩, fun D hD => it_go (walk_list (K := K) (a := r) (xs := ds.map V.ref)) (fun j H2 => Same H' H2 ∧ ∃ acc : List Nat, acc.length = j ∧ (∀ m ∈ acc, m ≤ mostR (i + 1)) ∧ H2 D = some (.lst (nV acc))) ⟨sm_new hD _, [], rfl, (fun m hm => nomatch hm), upd_same⟩
      (fun j H2 _ p => sq (p.1 _ _ (sm _ _ hr0))) (fun j x H2 H3 hj p y => ?_) (fun H2 p => ?_)⟩
    · obtain ⟨rfl, hx⟩ := y
      obtain ⟨p1, acc, a1, a2, a3⟩ := p
      obtain ⟨a, ha, rfl⟩ := get_map hx
      obtain ⟨ks, k1', k2, k3⟩ := ((hR.same sm).same p1).2 j a ha
      have hkl : ks.length ≤ 3 := Nat.le_trans (nodup_len ks L k1' fun c hc => htL c (List.mem_of_mem_drop ((k2 c).mp hc))) hL.len
      have hjt : ∀ c ∈ ks, j + fst (t.drop j) c + 1 < rv.length := fun c hc => by
        have h1 := fst_lt ((k2 c).mp hc)
        rw [List.length_drop] at h1
        omega
      refine ⟨rfl, comp_keys (κ := k1) (ks := ks) (xs := ((ks.map fun c => rv.getD (j + fst (t.drop j) c + 1) 0).map fun n => ((n : Nat) : Int)).map V.int) rfl k3 (by omega) (by simp) (fun _ => rfl) (by show 5 < 6; decide) (fun od c v n H4 hc hv s4 Q2 q2 => ?_) (fun p H4 hp s4 h4 => ?_)⟩
      · have hm := List.mem_of_getElem? hc
        have hget : rv[j + fst (t.drop j) c + 1]? = some (rv.getD (j + fst (t.drop j) c + 1) 0) := by
          rw [List.getD_eq_getElem?_getD, List.getElem?_eq_getElem (hjt c hm)]
          rfl
        have hve : v = V.int ((rv.getD (j + fst (t.drop j) c + 1) 0 : Nat) : Int) := by
          rw [List.getElem?_map, List.getElem?_map, List.getElem?_map, hc] at hv
          exact (Option.some.inj hv).symm
        subst hve
        have nRa : R ≠ a := ne_of (p1 _ _ hRv) k3 (by intro z; cases z)
        refine ⟨.ref R, rfl, .ref a, rfl, kV (k1 c), rfl, a, _, rfl, .inl ⟨_, k1 c, .inr ⟨od, s4 _ _ upd_same⟩, rfl, ((val_dk k1_inj c _ ks).trans (if_pos hm)).symm⟩, _, _, rfl, rfl, R, _, _, _, rfl, rfl, sq (s4 _ _ (by rw [upd_ne nRa]; exact p1 _ _ hRv)), ?_, q2 H4 (Same.refl _)⟩
        rw [show ((j + fst (t.drop j) c : Nat) : Int) + 1 = ((j + fst (t.drop j) c + 1 : Nat) : Int) by omega]
        exact atI_nat (get_nV hget)
      · have hs : (ks.map fun c => rv.getD (j + fst (t.drop j) c + 1) 0).sum ≤ 3 * mostR i := by
          refine Nat.le_trans (sum_le (B := mostR i) fun m hm => ?_) (Nat.mul_le_mul_right _ (by rw [List.length_map]; exact hkl))
          obtain ⟨c, hc, rfl⟩ := List.mem_map.mp hm
          rw [List.getD_eq_getElem?_getD, List.getElem?_eq_getElem (hjt c hc)]
          exact hb _ (List.getElem_mem _)
        refine ⟨p, _, rfl, sq h4, ?_⟩
        rw [nV_sum]
        refine ⟨_, _, rfl, rfl, _, s4 _ _ a3, ?_, (p1.trans s4).mut hD _, acc ++ [1 + (ks.map fun c => rv.getD (j + fst (t.drop j) c + 1) 0).sum], by rw [List.length_append, a1]; rfl, fun m hm => ?_, ?_⟩
        · rw [List.length_map, a1]
          rw [List.length_map, hR.1] at hj
          exact small1000 (by omega)
        · rcases List.mem_append.mp hm with z | z
          · exact a2 m z
          · rw [List.mem_singleton.mp z, mostR]
            omega
        · rw [upd_same, nV_snoc]
          refine congrArg (fun z => some (HO.lst (nV acc ++ [V.int z]))) ?_
          omega
    · obtain ⟨p1, acc, a1, a2, a3⟩ := p
      exact ⟨D, acc, _, rfl, sm.trans p1, a3, by rw [a1, List.length_map, hR.1], a2⟩
  · obtain ⟨R, rv, v, rfl, sm, hRv, hlen, hb⟩ := p
    cases rv with
    | nil => simp at hlen
    | cons m rv =>
      refine ⟨.ref R, rfl, R, _, 0, _, rfl, rfl, sq hRv, atI_nat (j := 0) rfl, q m H' (Nat.le_trans (hb m (List.mem_cons_self ..)) (mostR_le ?_)) sm⟩
      split <;> omega
end
end Sk
end
section
set_option Elab.async false
set_option linter.all false
set_option maxRecDepth 100000
set_option maxHeartbeats 4000000
namespace Sk
open PySem PySem.Spec PyProof.Rows L2 SX C8
/-- tuples of a word and the place behind -/
def LvAt (H : Hp) (ts : List Addr) (lv : List (Tx × Nat)) : Prop := ts.length = lv.length ∧ ∀ (i : Nat) (u : Tx) (k : Nat), lv[i]? = some (u, k) → ∃ a, ts[i]? = some a ∧ H a = some (.tup [tV u, .int ((k : Nat) : Int)])
theorem LvAt.same {H H' : Hp} {ts : List Addr} {lv : List (Tx × Nat)} (s : Same H H') (h : LvAt H ts lv) : LvAt H' ts lv := ⟨h.1, fun i x y e => let ⟨a, h1, h2⟩ := h.2 i x y e; ⟨a, h1, s _ _ h2⟩⟩
theorem LvAt.upd_lst {H : Hp} {ts : List Addr} {lv : List (Tx × Nat)} {b : Addr} {xs : List V} {o : HO} (h : LvAt H ts lv) (hb : H b = some (.lst xs)) : LvAt (upd H b o) ts lv :=
  ⟨h.1, fun i x y e => let ⟨a, h1, h2⟩ := h.2 i x y e; ⟨a, h1, by rw [upd_ne (ne_of h2 hb (by intro z; cases z))]; exact h2⟩⟩
theorem LvAt.snoc {H : Hp} {ts : List Addr} {lv : List (Tx × Nat)} {a : Addr} {u : Tx} {k : Nat} (h : LvAt H ts lv) (e : H a = some (.tup [tV u, .int ((k : Nat) : Int)])) : LvAt H (ts ++ [a]) (lv ++ [(u, k)]) := by
  refine ⟨by rw [List.length_append, List.length_append, h.1]; rfl, fun i x y hi => ?_⟩
  by_cases hlt : i < lv.length
  · rw [List.getElem?_append_left hlt] at hi
    rw [List.getElem?_append_left (by rw [h.1]; exact hlt)]
    exact h.2 i x y hi
  · rw [List.getElem?_append_right (by omega)] at hi
    have e2 : i - lv.length = 0 := by
      have := (List.getElem?_eq_some_iff.mp hi).1
      simp at this
      omega
    rw [e2] at hi
    obtain ⟨rfl, rfl⟩ := Prod.mk.inj (Option.some.inj hi)
    refine ⟨a, ?_, e⟩
    rw [List.getElem?_append_right (by rw [h.1]; omega), h.1, e2]
    rfl
theorem LvAt.get {H : Hp} {ts : List Addr} {lv : List (Tx × Nat)} (h : LvAt H ts lv) {i : Nat} {x : V} (e : (ts.map V.ref)[i]? = some x) : ∃ (a : Addr) (u : Tx) (k : Nat), x = .ref a ∧ lv[i]? = some (u, k) ∧ H a = some (.tup [tV u, .int ((k : Nat) : Int)]) := by
  obtain ⟨a, ha, rfl⟩ := get_map e
  have hi : i < lv.length := by
    have := (List.getElem?_eq_some_iff.mp ha).1
    rw [h.1] at this
    exact this
  obtain ⟨b, h1, h2⟩ := h.2 i lv[i].1 lv[i].2 (List.getElem?_eq_getElem hi)
  rw [ha] at h1
  obtain rfl := Option.some.inj h1
  exact ⟨a, _, _, rfl, List.getElem?_eq_getElem hi, h2⟩
theorem lv_mem {L t : Tx} {i : Nat} {u : Tx} {k : Nat} (h : (u, k) ∈ (wordsN L i).filterMap (lvOf t)) : u.length = i ∧ k ≤ t.length := by
  obtain ⟨w, hw, e⟩ := List.mem_filterMap.mp h
  unfold lvOf at e
  cases hl : left w t with
  | none =>
    rw [hl] at e
    cases e
  | some r =>
    rw [hl] at e
    have := Option.some.inj e
    obtain ⟨rfl, rfl⟩ := Prod.mk.inj this
    exact ⟨wordsN_each L i _ hw, Nat.sub_le _ _⟩
theorem filterMap_len {α β : Type} (f : α → Option β) (l : List α) : (l.filterMap f).length ≤ l.length := List.length_filterMap_le f l
theorem read_far {L t : Tx} {i : Nat} (h : t.length < i) : (wordsN L i).filter (isRead t) = [] := by
  rw [List.filter_eq_nil_iff]
  intro w hw z
  have := (isRead_iff.mp z).length_le
  rw [wordsN_each L i w hw] at this
  omega
theorem read_upto {L t : Tx} : ∀ n m : Nat, t.length ≤ n → (wordsTo L (n + m + 1)).filter (isRead t) = (wordsTo L (n + 1)).filter (isRead t)
  | n, 0, _ => rfl
  | n, m + 1, h => by
    show (wordsTo L ((n + m + 1) + 1)).filter (isRead t) = _
    rw [wordsTo, List.filter_append, read_upto n m h, read_far (by omega), List.append_nil]
theorem flat_more_len (L t : Tx) : ∀ lv : List (Tx × Nat), (lv.flatMap (more L t)).length ≤ lv.length * L.length
  | [] => Nat.zero_le _
  | q :: lv => by
    have h := flat_more_len L t lv
    have h1 : (more L t q).length ≤ L.length := by
      unfold more
      rw [List.length_map]
      exact List.length_filter_le ..
    rw [List.flatMap_cons, List.length_append, List.length_cons, Nat.add_mul]
    omega
section
variable {P : Program} {w : World} {K : PySem.W.Frag} {mg : Str → Option Value} {base : Heap}
theorem crSortedS {X : Cx} (h : X.K = K) : CallR X (.builtin "sorted") (rSortedS K) := h ▸ cr_sortedS
theorem piList {X : Cx} {tg l : Expr} {tl : TE} (h : X.K = K) (hl : PE X l tl) : L2.PI X tg l (iList K tl) := h ▸ pi_list hl
theorem scReads : FnScope ["depth", "text", "rows", "many", "level", "found", "_", "word", "at", "letter"] ["depth", "text"] (defScope sReads) := fnScope_by (by decide +kernel)
def spReads : Sp := fun vs H Q _ => ∃ (L t : Tx) (d : Nat), vs = [.int ((d : Nat) : Int), tV t] ∧ Alp L ∧ (∀ c ∈ t, c ∈ L) ∧ t.length ≤ 256 ∧ d ≤ 3 ∧ RL (((wordsTo L (d + 1)).filter (isRead t)).map tV) H Q
theorem c_reads (C : Ctx K mg) : Cal P w K mg base 5 "reads" spReads [] := by
  refine (fReads C).cal scReads (fun _ _ _ _ _ _ us hl => match us, hl with | [_, _], _ => rfl) (fun vs H Q E h => ?_) (fun cdv A outer s H vs Q E hr h => ?_)
  · obtain ⟨L, t, d, rfl, _⟩ := h
    rfl
  obtain ⟨L, t, d, rfl, hL, htL, ht, hd, q⟩ := h
  have hu := hu_of hr
  have nd := scReads.nd
  have hLo : Lo t := fun c hc => hL.lo c (htL c hc)
  obtain ⟨tk, hm⟩ := i_MOST_READS C
  refine ⟨_, pss_cons (ps_expr (pe_c (c_check_depth C) hr (by decide) (by rfl) (pa_cons (pv 0) pa_nil)))
    (pss_cons (ps_expr (pe_c (c_check_text C) hr (by decide) (by rfl) (pa_cons (pv 1) pa_nil)))
    (pss_cons (ps_set (i := 2) nd rfl (Or.inr rfl) (pe_c (c_places_ahead C) hr (by decide) (by rfl) (pa_cons (pv 1) pa_nil)))
    (pss_cons (ps_set (i := 3) nd rfl (Or.inl rfl) (pe_c (c_how_many_reads C) hr (by decide) (by rfl) (pa_cons (pv 2) (pa_cons (pv 0) pa_nil))))
    (pss_cons (ps_if (pt_cmpR op_gt (pv 3) (pe_glob (v := .int 2000) (by rfl) hm ⟨tk, rfl⟩) (nomark _)) (pss_one ps_never) pss_nil)
    (pss_cons (ps_par (i := 4) (j := 5) rfl nd rfl rfl (by decide) rfl rfl (pa_cons (pe_lst (pa_cons (pe_tup (pa_cons pe_str (pa_cons pe_int pa_nil))) pa_nil)) (pa_cons (pe_lst (pa_cons pe_str pa_nil)) pa_nil)) rfl)
    (pss_cons (ps_for PassesOwn.never rfl (pi_range1 rfl (b_range C) (pa_cons (pe_callB (call_min2 rfl) (by rfl) (b_min C) boot_min (pa_cons (pv 0) (pa_cons (pe_callB call_len_str (by rfl) (b_len C) boot_len (pa_cons (pv 1) pa_nil)) pa_nil))) pa_nil)) (pg_name (i := 6) nd rfl (Or.inl rfl))
      (pss_cons (ps_setLc2 (i := 4) (own := [("word", 7), ("at", 8), ("letter", 9)]) (vs1 := [9]) (g := g2 K 7 8) (g1 := gName 9) (by rfl) nd rfl rfl (sw_true rfl rfl rfl (by decide +kernel)) (pi_list (pv 4))
        (blkOk_by (own := [("word", 7), ("at", 8), ("letter", 9)]) (N := ["depth", "text", "rows", "many", "level", "found", "_", "word", "at", "letter"]) (sc := defScope sReads) (by decide +kernel)) (by decide)
        (fun _ _ _ _ _ => pg_tup (by rfl) (pgs_cons (pg_name (i := 7) nd rfl (Or.inl rfl)) (pgs_cons (pg_name (i := 8) nd rfl (Or.inl rfl)) pgs_nil))) (fun _ _ _ _ _ => pts_nil)
        (fun _ _ _ _ _ => piList (K := K) rfl (pe_callB (crSortedS (K := K) rfl) (by rfl) (b_sorted C) boot_sorted (pa_cons (pe_callTy (call_listD rfl) (by rfl) (b_list C) PyProof.Rows.boot_list (pa_cons (pe_ix (ixL (K := K) rfl) (pv 2) (pv 8) (fun _ _ => rfl)) pa_nil)) pa_nil)))
        (fun _ _ _ _ _ => pg_name (i := 9) nd rfl (Or.inl rfl)) (fun _ _ _ _ _ => pts_nil)
        (fun _ _ _ _ _ => pe_tup (pa_cons (pe_op op_add_str (pv 7) (pv 9)) (pa_cons (pe_op op_add (pe_dget hu (pe_ix (ixL (K := K) rfl) (pv 2) (pv 8) (fun _ _ => rfl)) (pv 9) (fun _ _ => rfl)) pe_int) pa_nil))))
      (pss_one (ps_set (i := 5) nd rfl (Or.inl rfl) (pe_op op_cat (pv 5) (pe_lc (own := [("word", 7), ("at", 8)]) (g := g2 K 7 8) (by rfl) nd (pi_list (pv 4))
        (blkOk_by (own := [("word", 7), ("at", 8)]) (N := ["depth", "text", "rows", "many", "level", "found", "_", "word", "at", "letter"]) (sc := defScope sReads) (by decide +kernel))
        (fun _ _ _ _ _ => pg_tup (by rfl) (pgs_cons (pg_name (i := 7) nd rfl (Or.inl rfl)) (pgs_cons (pg_name (i := 8) nd rfl (Or.inl rfl)) pgs_nil))) (fun _ _ _ _ _ => pts_nil)
        (fun _ _ _ _ _ => pv 7)))))))
    (pss_one (ps_ret (pv 5))))))))), ?_⟩
  refine ⟨_, rfl, d, rfl, tV t, rfl, t, rfl, by omega, hLo, tV t, rfl, t, rfl, by omega, fun r ds H1 nr s1 hr1 hR => ?_⟩
  refine ⟨.ref r, rfl, _, rfl, r, ds, L, t, d, rfl, hr1, hR, hL, htL, ht, hd, fun m H2 hm2 s2 => ?_⟩
  refine ⟨.int ((m : Nat) : Int), rfl, _, _, rfl, rfl, _, rfl, ?_⟩
  rw [decide_eq_false (show ¬ (2000 : Int) < ((m : Nat) : Int) by omega)]
  refine iteF ?_
  refine ⟨by show 2 ≤ sizeLine; decide, fun T0 hT0 => ?_⟩
  have z1 := sm_new hT0 (.tup [tV [], .int 0])
  refine ⟨by show 1 ≤ sizeLine; decide, fun La0 hLa0 => ?_⟩
  have z2 := sm_new hLa0 (.lst [.ref T0])
  refine ⟨by show 1 ≤ sizeLine; decide, fun F0 hF0 => ?_⟩
  have z3 := sm_new hF0 (.lst [tV []])
  have zz := (z1.trans z2).trans z3
  refine ⟨_, _, rfl, ?_⟩
  refine ⟨.int ((d : Nat) : Int), rfl, tV t, rfl, S t, rfl, smallT (by omega), _, _, rfl, _, rfl, by split <;> omega, by rw [S_len]; split <;> omega, for_range (lo := 0) (fun i σ H' => ∃ (La F : Addr) (ts : List Addr) (v : Option V),
      σ = [some (.int ((d : Nat) : Int)), some (tV t), some (.ref r), some (.int ((m : Nat) : Int)), some (.ref La), some (.ref F), v, none, none, none] ∧ Same H2 H' ∧ H' La = some (.lst (ts.map V.ref)) ∧ LvAt H' ts ((wordsN L i).filterMap (lvOf t)) ∧ H2 F = none ∧ H' F = some (.lst (((wordsTo L (i + 1)).filter (isRead t)).map tV)))
    ⟨La0, F0, [T0], none, rfl, zz, z3 _ _ upd_same, ⟨rfl, fun i u k e => ?_⟩, (z1.trans z2).free hF0, upd_same⟩ (fun i σ H' hi p => ?_) (fun σ H' p => ?_)⟩
  · have hi : i = 0 := by
      have := (List.getElem?_eq_some_iff.mp e).1
      simp [wordsN, lvOf, left] at this
      omega
    subst hi
    have e2 : some (([] : Tx), t.length - t.length) = some (u, k) := e
    rw [Nat.sub_self] at e2
    obtain ⟨rfl, rfl⟩ := Prod.mk.inj (Option.some.inj e2)
    exact ⟨T0, rfl, z3 _ _ (z2 _ _ upd_same)⟩
  · obtain ⟨La, F, ts, v, rfl, sm, hLa, hts, nF, hF⟩ := p
    have hi3 : i < 3 := by
      rw [S_len] at hi
      split at hi <;> omega
    have hrow : ∀ k, k ≤ t.length → ∃ a, ds[k]? = some a := fun k hk => ⟨_, List.getElem?_eq_getElem (by rw [hR.1]; omega)⟩
    have hlvl : ((wordsN L i).filterMap (lvOf t)).length ≤ 27 := by
      refine Nat.le_trans (List.length_filterMap_le ..) ?_
      rw [wordsN_len]
      exact pow_le3 hL (by omega)
    refine ⟨_, rfl, La, rfl, ⟨_, sq hLa⟩, fun D hD => it_go (walk_list (K := K) (a := La) (xs := ts.map V.ref)) (fun j H3 => Same H' H3 ∧ ∃ ts' : List Addr, H3 D = some (.lst (ts'.map V.ref)) ∧ LvAt H3 ts' ((((wordsN L i).filterMap (lvOf t)).take j).flatMap (more L t)))
      ⟨sm_new hD _, [], upd_same, rfl, fun i x y e => by simp at e⟩ (fun j H3 _ p => sq (p.1 _ _ hLa)) (fun j x H3 H4 hj p y => ?_) (fun H3 p => ?_)⟩
    · obtain ⟨rfl, hx⟩ := y
      obtain ⟨p1, ts', p2, p3⟩ := p
      obtain ⟨a, u, k, rfl, hjl, hA⟩ := (hts.same p1).get hx
      obtain ⟨hul, hkl⟩ := lv_mem (List.mem_of_getElem? hjl)
      obtain ⟨dd, hdd⟩ := hrow k hkl
      have sr : Same H1 H4 := (s2.trans sm).trans p1
      obtain ⟨ks, k1', k2, k3⟩ := hR.2 k dd hdd
      have hksl : ks.length ≤ 3 := Nat.le_trans (nodup_len ks L k1' fun c hc => htL c (List.mem_of_mem_drop ((k2 c).mp hc))) hL.len
      have hr4 := sr _ _ hr1
      have hdr : (ds.map V.ref)[k]? = some (.ref dd) := by rw [List.getElem?_map, hdd]; rfl
      have ek : ((dk k1 ks (plV t k)).map fun kv => kV kv.1) = (ks.map oneS).map V.str := by
        unfold dk
        rw [List.map_map, List.map_map]
        rfl
      refine ⟨a, _, rfl, st hA, rfl, _, _, rfl, _, [], rfl, rfl, rfl, ?_⟩
      refine ⟨.ref r, rfl, .int ((k : Nat) : Int), rfl, r, _, _, _, rfl, rfl, sq hr4, atI_nat hdr, dd, _, rfl, .inl (sr _ _ k3), fun p hp => ?_⟩
      rw [ek]
      refine ⟨p, ks.map oneS, rfl, sq upd_same, by rw [List.length_map]; omega, fun ys p' perm srt hp' => ?_⟩
      have s5 := sm_new hp (.lst ((ks.map oneS).map V.str))
      have s6 := s5.trans (sm_new hp' (.lst (ys.map V.str)))
      have ey := sorted_one perm k1' k2 (fun c hc => htL c (List.mem_of_mem_drop hc)) hL.nodup hL.up srt
      generalize hcs : (L.filter fun c => decide (c ∈ t.drop k)) = cs at ey
      subst ey
      have hcl : cs.length ≤ 3 := by
        rw [← hcs]
        exact Nat.le_trans (List.length_filter_le ..) hL.len
      have hmore : more L t (u, k) = cs.map fun c => (u ++ [c], k + fst (t.drop k) c + 1) := by
        unfold more
        rw [hcs]
      refine ⟨p', rfl, ⟨_, sq upd_same⟩, it_go (walk_list (K := K) (a := p') (xs := (cs.map oneS).map V.str)) (fun j' H6 => H6 p' = some (.lst ((cs.map oneS).map V.str)) ∧ Same H' H6 ∧ ∃ ts' : List Addr, H6 D = some (.lst (ts'.map V.ref)) ∧ LvAt H6 ts' ((((wordsN L i).filterMap (lvOf t)).take j).flatMap (more L t) ++ (more L t (u, k)).take j')) ?_ ?_ ?_ ?_⟩
      · refine ⟨upd_same, p1.trans s6, ts', s6 _ _ p2, ?_⟩
        rw [List.take_zero, List.append_nil]
        exact p3.same s6
      · exact fun j' H6 _ p => sq p.1
      · intro j' x H6 H7 hj' p y
        obtain ⟨rfl, hx⟩ := y
        obtain ⟨q1, q2, ts'', q3, q4⟩ := p
        rw [List.getElem?_map, List.getElem?_map] at hx
        obtain ⟨c, hc, rfl⟩ : ∃ c, cs[j']? = some c ∧ x = V.str (oneS c) := by
          cases e : cs[j']? with
          | none => rw [e] at hx; cases hx
          | some c => rw [e] at hx; exact ⟨c, rfl, (Option.some.inj hx).symm⟩
        have hct : c ∈ ks := by
          have h1 := List.mem_of_getElem? hc
          rw [← hcs] at h1
          exact (k2 c).mpr (of_decide_eq_true (List.mem_filter.mp h1).2)
        have s7 : Same H1 H7 := (s2.trans sm).trans q2
        have k7 : H7 dd = some (.dK (dk k1 ks (plV t k))) := s7 _ _ k3
        refine ⟨rfl, tV u, rfl, .str (oneS c), rfl, S u, oneS c, rfl, rfl, ?_, ?_⟩
        · rw [S_len]
          exact small (by show u.length + 1 ≤ _; omega)
        refine ⟨.ref r, rfl, .int ((k : Nat) : Int), rfl, r, _, _, _, rfl, rfl, sq (s7 _ _ hr1), atI_nat hdr, .str (oneS c), rfl, dd, _, rfl, .inl ⟨_, k1 c, .inl k7, rfl, ((val_dk k1_inj c _ ks).trans (if_pos hct)).symm⟩, _, _, rfl, rfl, ?_⟩
        refine ⟨by show 2 ≤ sizeLine; decide, fun T hT => ?_⟩
        have ew : S u ++ oneS c = S (u ++ [c]) := S_cat u [c]
        rw [ew]
        have s8 := sm_new hT (.tup [.str (S (u ++ [c])), .int (((k + fst (t.drop k) c : Nat) : Int) + 1)])
        have hlen : ts''.length ≤ 200 := by
          rw [q4.1, List.length_append, List.length_take]
          have h1 := flat_more_len L t (((wordsN L i).filterMap (lvOf t)).take j)
          rw [List.length_take] at h1
          have h2 : min j ((wordsN L i).filterMap (lvOf t)).length * L.length ≤ 27 * 3 := Nat.mul_le_mul (by omega) hL.len
          have h3 : (more L t (u, k)).length ≤ 3 := by rw [hmore, List.length_map]; exact hcl
          omega
        have nTD : T ≠ D := fun z => by
          rw [z, q3] at hT
          cases hT
        have npD : p' ≠ D := fun z => by
          rw [z] at hp'
          have := s5 _ _ p2
          rw [hp'] at this
          cases this
        refine ⟨_, s8 _ _ q3, ?_, ?_, (q2.trans s8).mut hD _, ts'' ++ [T], ?_, ?_⟩
        · rw [List.length_map]
          exact small1000 (by omega)
        · rw [upd_ne npD]
          exact s8 _ _ q1
        · rw [upd_same, List.map_append]
          rfl
        · refine LvAt.upd_lst ?_ (s8 _ _ q3)
          have hm : (more L t (u, k))[j']? = some (u ++ [c], k + fst (t.drop k) c + 1) := by
            rw [hmore, List.getElem?_map, hc]
            rfl
          rw [List.take_add_one, hm, Option.toList_some, ← List.append_assoc]
          exact (q4.same s8).snoc upd_same
      · intro H6 p
        obtain ⟨q1, q2, ts'', q3, q4⟩ := p
        refine ⟨q2, ts'', q3, ?_⟩
        have e1 : ((cs.map oneS).map V.str).length = (more L t (u, k)).length := by rw [hmore, List.length_map, List.length_map, List.length_map]
        rw [e1, List.take_length] at q4
        rw [List.take_add_one, hjl, Option.toList_some, List.flatMap_append, List.flatMap_singleton]
        exact q4
    · obtain ⟨p1, ts', p2, p3⟩ := p
      have e1 : (ts.map V.ref).length = ((wordsN L i).filterMap (lvOf t)).length := by rw [List.length_map, hts.1]
      rw [e1, List.take_length, ← more_all] at p3
      have p3 : LvAt H3 ts' ((wordsN L (i + 1)).filterMap (lvOf t)) := p3
      have hl2 : ((wordsN L (i + 1)).filterMap (lvOf t)).length ≤ 27 := by
        refine Nat.le_trans (List.length_filterMap_le ..) ?_
        rw [wordsN_len]
        exact pow_le3 hL (by omega)
      refine ⟨.ref F, rfl, .ref D, rfl, D, rfl, ⟨_, sq p2⟩, fun D2 hD2 => lc_vals (walk_list (K := K) (a := D) (xs := ts'.map V.ref)) (xs := ((wordsN L (i + 1)).filterMap (lvOf t)).map fun q => tV q.1) (by rw [List.length_map, List.length_map, p3.1]) (by rw [List.length_map, p3.1]; omega) hD2 (fun H4 s4 => sq (s4 _ _ p2))
        (fun j v x H4 H5 hv hj s4 y => ?_) (fun H4 s4 h4 => ?_)⟩
      · obtain ⟨rfl, hx⟩ := y
        obtain ⟨a, u, k, rfl, hjl, hA⟩ := (p3.same s4).get hx
        rw [List.getElem?_map, hjl] at hv
        obtain rfl : tV u = v := Option.some.inj hv
        exact ⟨Same.refl _, fun R E hR => ⟨a, _, rfl, st hA, rfl, _, _, rfl, _, [], rfl, rfl, rfl, tV u, rfl, hR _ (Same.refl _)⟩⟩
      · have e2 : (((wordsN L (i + 1)).filterMap (lvOf t)).map fun q => tV q.1) = (((wordsN L (i + 1)).filter (isRead t)).map tV) := by
          rw [← lv_words, List.map_map]
          rfl
        rw [e2] at h4
        refine ⟨F, D2, _, _, rfl, rfl, s4 _ _ (p1 _ _ hF), h4, ?_, fun c hc => ?_⟩
        · rw [List.length_map, List.length_map]
          have h1 := wordsTo_len hL (n := i + 1) (by omega)
          have h2 := List.length_filter_le (isRead t) (wordsTo L (i + 1))
          have h3 := List.length_filter_le (isRead t) (wordsN L (i + 1))
          rw [wordsN_len] at h3
          have h4 : L.length ^ (i + 1) ≤ 27 := pow_le3 hL (by omega)
          exact small (by omega)
        · have sc' := sm_new hc (.lst (((wordsTo L (i + 1)).filter (isRead t)).map tV ++ ((wordsN L (i + 1)).filter (isRead t)).map tV))
          refine ⟨D, c, ts', _, rfl, ((sm.trans p1).trans s4).trans sc', sc' _ _ (s4 _ _ p2), (p3.same s4).same sc', ((sm.trans p1).trans s4).free hc, ?_⟩
          rw [upd_same, show wordsTo L (i + 1 + 1) = wordsTo L (i + 1) ++ wordsN L (i + 1) from rfl, List.filter_append, List.map_append]
  · obtain ⟨La, F, ts, v, rfl, sm, hLa, hts, nF, hF⟩ := p
    refine ⟨.ref F, rfl, q F H' ((s1.trans s2).free nF) ((s1.trans s2).trans sm) ?_⟩
    rw [hF]
    refine congrArg (fun l : List Tx => some (HO.lst (l.map tV))) ?_
    rw [S_len]
    by_cases hlt : t.length < d
    · rw [if_pos (by omega)]
      have := read_upto (L := L) (t := t) t.length (d - t.length) (Nat.le_refl _)
      rw [show t.length + (d - t.length) + 1 = d + 1 by omega] at this
      rw [this]
      rfl
    · rw [if_neg (by omega)]
      rfl
end
end Sk
end
section
set_option autoImplicit false
namespace Sk
/-! how often a word is read -/
def cnt : Tx → Tx → Nat
  | [], _ => 1
  | _ :: _, [] => 0
  | a :: w, b :: t => cnt (a :: w) t + if a = b then cnt w t else 0
abbrev Ser := Tx → Nat
def cn (t : Tx) : Ser := fun w => cnt w t
def one : Ser
  | [] => 1
  | _ :: _ => 0
def conv (f g : Ser) : Tx → Nat
  | [] => f [] * g []
  | a :: w => f [] * g (a :: w) + conv (fun u => f (a :: u)) g w
theorem cnt_nil_text : ∀ (w : Tx), cnt w [] = one w
  | [] => rfl
  | _ :: _ => rfl
theorem cnt_nil (t : Tx) : cnt [] t = 1 := by cases t <;> rfl
theorem cnt_cons (a b : Nat) (w t : Tx) : cnt (a :: w) (b :: t) = cnt (a :: w) t + if a = b then cnt w t else 0 := rfl
theorem conv_zero (g : Ser) : ∀ w, conv (fun _ => 0) g w = 0
  | [] => by rw [conv, Nat.zero_mul]
  | a :: w => by rw [conv, Nat.zero_mul, conv_zero g w]
theorem conv_add (f f' g : Ser) : ∀ w, conv (fun u => f u + f' u) g w = conv f g w + conv f' g w := by
  intro w
  induction w generalizing f f' with
  | nil => rw [conv, conv, conv, Nat.add_mul]
  | cons a w ih =>
    rw [conv, conv, conv, ih (fun u => f (a :: u)) (fun u => f' (a :: u)), Nat.add_mul]
    omega
theorem conv_smul (c : Nat) (f g : Ser) : ∀ w, conv (fun u => c * f u) g w = c * conv f g w := by
  intro w
  induction w generalizing f with
  | nil => rw [conv, conv, Nat.mul_assoc]
  | cons a w ih => rw [conv, conv, ih fun u => f (a :: u), Nat.mul_add, Nat.mul_assoc]
theorem conv_addR (f g g' : Ser) : ∀ w, conv f (fun u => g u + g' u) w = conv f g w + conv f g' w := by
  intro w
  induction w generalizing f with
  | nil => rw [conv, conv, conv, Nat.mul_add]
  | cons a w ih =>
    rw [conv, conv, conv, ih fun u => f (a :: u), Nat.mul_add]
    omega
theorem conv_smulR (c : Nat) (f g : Ser) : ∀ w, conv f (fun u => c * g u) w = c * conv f g w := by
  intro w
  induction w generalizing f with
  | nil => rw [conv, conv, Nat.mul_left_comm]
  | cons a w ih => rw [conv, conv, ih fun u => f (a :: u), Nat.mul_add, Nat.mul_left_comm]
theorem conv_zeroR (f : Ser) : ∀ w, conv f (fun _ => 0) w = 0 := by
  intro w
  induction w generalizing f with
  | nil => rw [conv, Nat.mul_zero]
  | cons a w ih => rw [conv, ih fun u => f (a :: u), Nat.mul_zero]
theorem conv_one (f : Ser) : ∀ w, conv f one w = f w := by
  intro w
  induction w generalizing f with
  | nil => rw [conv]; exact Nat.mul_one _
  | cons a w ih => rw [conv, ih fun u => f (a :: u), one, Nat.mul_zero, Nat.zero_add]
theorem one_conv (g : Ser) : ∀ w, conv one g w = g w
  | [] => by rw [conv]; exact Nat.one_mul _
  | a :: w => by
    rw [conv, show (fun u => one (a :: u)) = fun _ => 0 from rfl, conv_zero, show one [] = 1 from rfl, Nat.one_mul, Nat.add_zero]
theorem conv_assoc (f g h : Ser) : ∀ w, conv (conv f g) h w = conv f (conv g h) w := by
  intro w
  induction w generalizing f with
  | nil => rw [conv, conv, conv, conv, Nat.mul_assoc]
  | cons a w ih =>
    rw [conv, conv, conv.eq_2 f, show (fun u => conv f g (a :: u)) = fun u => f [] * g (a :: u) + conv (fun v => f (a :: v)) g u from rfl, conv_add, conv_smul, ih, conv.eq_2 g, Nat.mul_add, Nat.mul_assoc]
    exact (Nat.add_assoc _ _ _).symm
theorem conv_congr {f f' g g' : Ser} (h1 : ∀ u, f u = f' u) (h2 : ∀ u, g u = g' u) (w : Tx) : conv f g w = conv f' g' w := by
  have e1 : f = f' := funext h1
  have e2 : g = g' := funext h2
  rw [e1, e2]
/-- the left factor counts only ahead of the whole when the right one is nothing at the empty word -/
theorem conv_less {g : Ser} (hg : g [] = 0) : ∀ (w : Tx) (f f' : Ser), (∀ u : Tx, u.length < w.length → f u = f' u) → conv f g w = conv f' g w
  | [], f, f', _ => by rw [conv, conv, hg, Nat.mul_zero, Nat.mul_zero]
  | a :: w, f, f', h => by
    rw [conv, conv, h [] (by simp), conv_less hg w _ _ fun u hu => h (a :: u) (by simp; omega)]
theorem conv_le {f f' g g' : Ser} (h1 : ∀ u, f u ≤ f' u) (h2 : ∀ u, g u ≤ g' u) : ∀ w, conv f g w ≤ conv f' g' w := by
  intro w
  induction w generalizing f f' with
  | nil => exact Nat.mul_le_mul (h1 _) (h2 _)
  | cons a w ih => exact Nat.add_le_add (Nat.mul_le_mul (h1 _) (h2 _)) (ih fun u => h1 (a :: u))
theorem cnt_app (t u : Tx) : ∀ w, cnt w (t ++ u) = conv (cn t) (cn u) w := by
  induction t with
  | nil =>
    intro w
    rw [List.nil_append, show cn [] = one from funext cnt_nil_text, one_conv]
    rfl
  | cons b t ih =>
    intro w
    cases w with
    | nil =>
      rw [cnt_nil, conv]
      show 1 = cnt [] (b :: t) * cnt [] u
      rw [cnt_nil, cnt_nil]
    | cons a w =>
      rw [List.cons_append, cnt_cons, ih, ih, conv, conv]
      have e : (fun v => cn (b :: t) (a :: v)) = fun v => cn t (a :: v) + (if a = b then 1 else 0) * cn t v := by
        funext v
        show cnt (a :: v) (b :: t) = cnt (a :: v) t + _ * cnt v t
        rw [cnt_cons]
        split <;> simp
      rw [e, conv_add, conv_smul, show cn (b :: t) [] = cn t [] from (cnt_nil _).trans (cnt_nil _).symm, Nat.add_assoc]
      refine congrArg (cn t [] * cn u (a :: w) + ·) (congrArg (conv (fun v => cn t (a :: v)) (cn u) w + ·) ?_)
      split <;> simp
/-- powers -/
def pw (f : Ser) : Nat → Ser
  | 0 => one
  | n + 1 => conv (pw f n) f
theorem cn_rep (t : Tx) : ∀ n, cn (rep t n) = pw (cn t) n
  | 0 => funext cnt_nil_text
  | n + 1 => by
    have h := cn_rep t n
    have e : rep t (n + 1) = rep t n ++ t := by
      unfold rep
      rw [List.replicate_succ', List.flatten_append]
      simp
    rw [pw, ← h, e]
    exact funext (cnt_app _ _)
/-- binomials -/
def ch : Nat → Nat → Nat
  | _, 0 => 1
  | 0, _ + 1 => 0
  | n + 1, k + 1 => ch n k + ch n (k + 1)
theorem ch_zero (n : Nat) : ch n 0 = 1 := by cases n <;> rfl
theorem ch_step : ∀ n k : Nat, (k + 1) * ch n (k + 1) + k * ch n k = n * ch n k
  | 0, 0 => rfl
  | 0, k + 1 => by simp [ch]
  | n + 1, 0 => by
    have h := ch_step n 0
    rw [ch_zero] at h ⊢
    rw [ch, ch_zero]
    omega
  | n + 1, k + 1 => by
    have h1 := ch_step n (k + 1)
    have h0 := ch_step n k
    rw [ch, ch]
    simp only [Nat.mul_add, Nat.add_mul, Nat.one_mul, Nat.mul_one] at h0 h1 ⊢
    omega
theorem ch_le (n : Nat) : ∀ k, ch n k ≤ (n + 1) ^ k
  | 0 => by rw [ch_zero]; exact Nat.le_refl _
  | k + 1 => by
    have h := ch_step n k
    have h1 := ch_le n k
    have h2 : ch n (k + 1) ≤ n * ch n k := by
      have : 1 * ch n (k + 1) ≤ (k + 1) * ch n (k + 1) := Nat.mul_le_mul_right _ (by omega)
      omega
    rw [Nat.pow_succ, Nat.mul_comm]
    exact Nat.le_trans h2 (Nat.mul_le_mul (by omega) h1)
/-- what is left when the empty word is taken out -/
def less (f : Ser) : Ser
  | [] => 0
  | a :: w => f (a :: w)
theorem one_less {f : Ser} (h : f [] = 1) : f = fun u => one u + less f u := by
  funext u
  cases u with
  | nil => exact h
  | cons a u => exact (Nat.zero_add _).symm
/-- the sum of the first m -/
def bs (f : Ser) (n : Nat) : Nat → Ser
  | 0 => fun _ => 0
  | m + 1 => fun w => bs f n m w + ch n m * pw f m w
theorem bs_pascal (f : Ser) (n : Nat) : ∀ m w, bs f (n + 1) (m + 1) w = bs f n (m + 1) w + conv (bs f n m) f w
  | 0, w => by
    rw [bs, bs, bs, bs, ch_zero, ch_zero, conv_zero]
    rfl
  | m + 1, w => by
    rw [show bs f (n + 1) (m + 1 + 1) w = bs f (n + 1) (m + 1) w + ch (n + 1) (m + 1) * pw f (m + 1) w from rfl, bs_pascal f n m w]
    have e : conv (bs f n (m + 1)) f w = conv (bs f n m) f w + ch n m * pw f (m + 1) w := by
      rw [show bs f n (m + 1) = fun w => bs f n m w + ch n m * pw f m w from rfl, conv_add, conv_smul]
      rfl
    rw [e, show bs f n (m + 1 + 1) w = bs f n (m + 1) w + ch n (m + 1) * pw f (m + 1) w from rfl, ch, Nat.add_mul]
    omega
theorem bs_zero (f : Ser) : ∀ m w, bs f 0 (m + 1) w = one w
  | 0, w => by
    show 0 + ch 0 0 * one w = one w
    rw [ch_zero, Nat.zero_add, Nat.one_mul]
  | m + 1, w => by
    show bs f 0 (m + 1) w + ch 0 (m + 1) * pw f (m + 1) w = one w
    rw [bs_zero f m w, ch, Nat.zero_mul, Nat.add_zero]
theorem pw_bs {f : Ser} (h : f [] = 1) : ∀ (n m : Nat) (w : Tx), w.length ≤ m → pw f n w = bs (less f) n (m + 1) w
  | 0, m, w, _ => (bs_zero _ m w).symm
  | n + 1, m, w, hw => by
    rw [bs_pascal, pw]
    have e : conv (pw f n) f w = conv (pw f n) (fun u => one u + less f u) w := congrArg (fun g => conv (pw f n) g w) (one_less h)
    rw [e, conv_addR, conv_one, pw_bs h n m w hw]
    refine congrArg (bs (less f) n (m + 1) w + ·) ?_
    refine conv_less rfl w _ _ fun u hu => ?_
    obtain ⟨k, rfl⟩ : ∃ k, m = k + 1 := ⟨m - 1, by omega⟩
    exact pw_bs h n k u (by omega)
/-- bounds -/
def Sm (f : Ser) (B : Nat) : Prop := ∀ w : Tx, w.length ≤ 3 → f w < 2 ^ B
theorem Sm.mono {f : Ser} {B C : Nat} (h : Sm f B) (hc : B ≤ C) : Sm f C := fun w hw => Nat.lt_of_lt_of_le (h w hw) (Nat.pow_le_pow_right (by decide) hc)
theorem cnt_le : ∀ (t w : Tx), cnt w t ≤ (t.length + 1) ^ w.length
  | _, [] => by rw [cnt_nil]; exact Nat.le_refl _
  | [], _ :: _ => Nat.zero_le _
  | b :: t, a :: w => by
    rw [cnt_cons]
    have h1 := cnt_le t (a :: w)
    have h2 := cnt_le t w
    have h3 : (if a = b then cnt w t else 0) ≤ (t.length + 1) ^ w.length := by split <;> omega
    have h4 : (t.length + 1) ^ w.length ≤ (t.length + 2) ^ w.length := Nat.pow_le_pow_left (by omega) _
    rw [List.length_cons, Nat.pow_succ] at h1
    rw [List.length_cons, List.length_cons, Nat.pow_succ]
    have h5 : (t.length + 1) ^ w.length * (t.length + 1) + (t.length + 1) ^ w.length = (t.length + 1) ^ w.length * (t.length + 2) := by rw [← Nat.mul_succ]
    have h6 : (t.length + 1) ^ w.length * (t.length + 2) ≤ (t.length + 2) ^ w.length * (t.length + 2) := Nat.mul_le_mul_right _ h4
    have h7 : (t.length + 1 + 1) = t.length + 2 := rfl
    rw [h7]
    omega
theorem conv_lt : ∀ (w : Tx) (f g : Ser) (A B : Nat), (∀ u : Tx, u.length ≤ w.length → f u < 2 ^ A) → (∀ u : Tx, u.length ≤ w.length → g u < 2 ^ B) → conv f g w < (w.length + 1) * 2 ^ (A + B)
  | [], f, g, A, B, h1, h2 => by
    rw [conv, Nat.pow_add]
    have := Nat.mul_lt_mul'' (h1 [] (Nat.le_refl _)) (h2 [] (Nat.le_refl _))
    simpa using this
  | a :: w, f, g, A, B, h1, h2 => by
    have h3 := conv_lt w (fun u => f (a :: u)) g A B (fun u hu => h1 (a :: u) (by simp; omega)) (fun u hu => h2 u (by simp; omega))
    have h4 := Nat.mul_lt_mul'' (h1 [] (Nat.zero_le _)) (h2 (a :: w) (Nat.le_refl _))
    rw [← Nat.pow_add] at h4
    rw [conv, List.length_cons, Nat.add_mul (w.length + 1) 1]
    omega
theorem Sm.conv {f g : Ser} {A B : Nat} (h1 : Sm f A) (h2 : Sm g B) : Sm (Sk.conv f g) (A + B + 2) := fun w hw => by
  have h := conv_lt w f g A B (fun u hu => h1 u (by omega)) (fun u hu => h2 u (by omega))
  have e : 2 ^ (A + B + 2) = 4 * 2 ^ (A + B) := by rw [Nat.pow_add _ (A + B) 2]; omega
  have h3 : (w.length + 1) * 2 ^ (A + B) ≤ 4 * 2 ^ (A + B) := Nat.mul_le_mul_right _ (by omega)
  omega
theorem sm_one : Sm one 1 := fun w _ => by
  cases w with
  | nil => exact (by decide : 1 < 2 ^ 1)
  | cons a w => exact (by decide : 0 < 2 ^ 1)
theorem Sm.less {f : Ser} {B : Nat} (h : Sm f B) : Sm (Sk.less f) B := fun w hw => by
  cases w with
  | nil => exact Nat.pow_pos (by decide)
  | cons a w => exact h _ hw
theorem Sm.pw {f : Ser} {B : Nat} (h : Sm f B) : ∀ k, Sm (Sk.pw f k) (1 + k * (B + 2))
  | 0 => sm_one.mono (by omega)
  | k + 1 => ((Sm.pw h k).conv h).mono (by rw [Nat.add_mul]; omega)
theorem ch_lt {n k : Nat} (hn : n < 2 ^ 100) : ch n k < 2 ^ (101 * k + 1) := by
  have h1 := ch_le n k
  have h2 : (n + 1) ^ k ≤ (2 ^ 101) ^ k := Nat.pow_le_pow_left (by omega) k
  rw [← Nat.pow_mul] at h2
  have h3 : 2 ^ (101 * k) < 2 ^ (101 * k + 1) := Nat.pow_lt_pow_right (by decide) (by omega)
  omega
theorem Sm.bs {f : Ser} {B n : Nat} (h : Sm f B) (hn : n < 2 ^ 100) : ∀ m, Sm (Sk.bs f n m) (3 + m * (B + 104))
  | 0 => fun w _ => Nat.pow_pos (by decide)
  | m + 1 => fun w hw => by
    have h1 := Sm.bs h hn m w hw
    have h2 := Sm.pw h m w hw
    have h3 := ch_lt (k := m) hn
    have h4 := Nat.mul_lt_mul'' h3 h2
    rw [← Nat.pow_add] at h4
    have e1 : m * (B + 104) = m * B + 104 * m := by rw [Nat.mul_add]; omega
    have e2 : m * (B + 2) = m * B + 2 * m := by rw [Nat.mul_add]; omega
    have h5 : 2 ^ (101 * m + 1 + (1 + m * (B + 2))) ≤ 2 ^ (3 + m * (B + 104)) := Nat.pow_le_pow_right (by decide) (by omega)
    have h6 : 2 * 2 ^ (3 + m * (B + 104)) ≤ 2 ^ (3 + (m + 1) * (B + 104)) := by
      rw [← Nat.pow_succ']
      exact Nat.pow_le_pow_right (by decide) (by rw [Nat.add_mul]; omega)
    show Sk.bs f n m w + ch n m * Sk.pw f m w < _
    omega
/-- what is read is counted -/
theorem cnt_pos : ∀ (t w : Tx), 0 < cnt w t ↔ w.Sublist t
  | t, [] => by rw [cnt_nil]; simp
  | [], a :: w => by simp [cnt]
  | b :: t, a :: w => by
    have h1 := cnt_pos t (a :: w)
    have h2 := cnt_pos t w
    rw [cnt_cons]
    by_cases e : a = b
    · subst e
      rw [if_pos rfl, List.cons_sublist_cons]
      constructor
      · intro h
        rcases Nat.lt_or_ge 0 (cnt w t) with z | z
        · exact h2.mp z
        · exact (List.sublist_cons_self a w).trans (h1.mp (by omega))
      · intro h
        have := h2.mpr h
        omega
    · rw [if_neg e, Nat.add_zero, h1]
      exact ⟨fun h => h.cons b, fun h => uncons e h⟩
theorem cnt_mono {t u : Tx} (h : t.Sublist u) : ∀ w, cnt w t ≤ cnt w u := by
  induction h with
  | slnil => exact fun w => Nat.le_refl _
  | cons b _ ih =>
    intro w
    cases w with
    | nil => rw [cnt_nil, cnt_nil]; exact Nat.le_refl _
    | cons a w =>
      rw [cnt_cons]
      have := ih (a :: w)
      omega
  | cons_cons b _ ih =>
    intro w
    cases w with
    | nil => rw [cnt_nil, cnt_nil]; exact Nat.le_refl _
    | cons a w =>
      rw [cnt_cons, cnt_cons]
      have h1 := ih (a :: w)
      have h2 := ih w
      split <;> omega
/-- conv as a sum -/
theorem conv_sum : ∀ (w : Tx) (f g : Ser), conv f g w = ((List.range (w.length + 1)).map fun i => f (w.take i) * g (w.drop i)).sum
  | [], f, g => by simp [conv]
  | a :: w, f, g => by
    rw [conv, conv_sum w, List.length_cons, List.range_succ_eq_map (n := w.length + 1), List.map_cons, List.sum_cons, List.map_map]
    rfl
/-- a last letter -/
theorem cnt_two (a c b : Nat) (u : Tx) : cnt (a :: (u ++ [c])) [b] = 0 := by
  rw [cnt_cons]
  have h1 : cnt (u ++ [c]) [] = 0 := by cases u <;> rfl
  rw [h1]
  split <;> rfl
theorem conv_letter (b c : Nat) : ∀ (u : Tx) (g : Ser), conv g (cn [b]) (u ++ [c]) = g (u ++ [c]) + if c = b then g u else 0
  | [], g => by
    show g [] * cnt [c] [b] + g [c] * cnt [] [b] = _
    rw [cnt_cons, cnt_nil, cnt_nil]
    have e : cnt [c] [] = 0 := rfl
    rw [e]
    split
    · simp; omega
    · simp
  | a :: u, g => by
    rw [List.cons_append, conv, conv_letter b c u]
    show g [] * cnt (a :: (u ++ [c])) [b] + _ = _
    rw [cnt_two, Nat.mul_zero, Nat.zero_add]
theorem conv_letter_nil (b : Nat) (g : Ser) : conv g (cn [b]) [] = g [] := by
  show g [] * cnt [] [b] = _
  rw [cnt_nil, Nat.mul_one]
theorem cnt_snoc (u t : Tx) (b c : Nat) : cnt (u ++ [c]) (t ++ [b]) = cnt (u ++ [c]) t + if c = b then cnt u t else 0 := by
  rw [cnt_app, conv_letter]
  rfl
theorem conv_bs (f g : Ser) (n : Nat) : ∀ m w, conv f (bs g n (m + 1)) w = conv f (bs g n m) w + ch n m * conv f (pw g m) w := fun m w => by
  rw [show bs g n (m + 1) = fun w => bs g n m w + ch n m * pw g m w from rfl, conv_addR, conv_smulR]
end Sk
end
section
set_option Elab.async false
set_option linter.all false
set_option maxRecDepth 100000
set_option maxHeartbeats 4000000
namespace Sk
open PySem PySem.Spec PyProof.Rows L2 SX C8
theorem ch_big : ∀ n k : Nat, n < k → ch n k = 0
  | _, 0, h => absurd h (by omega)
  | 0, k + 1, _ => rfl
  | n + 1, k + 1, h => by rw [ch, ch_big n k (by omega), ch_big n (k + 1) (by omega)]
theorem ch_next (n i : Nat) : ((ch n i : Nat) : Int) * (((n : Nat) : Int) - ((i : Nat) : Int)) / (((i : Nat) : Int) + 1) = ((ch n (i + 1) : Nat) : Int) := by
  by_cases h : i ≤ n
  · have h1 := ch_step n i
    have h2 : ((ch n i : Nat) : Int) * (((n : Nat) : Int) - ((i : Nat) : Int)) = (((i : Nat) : Int) + 1) * ((ch n (i + 1) : Nat) : Int) := by
      have h3 : ((i : Int) + 1) * (ch n (i + 1) : Int) + (i : Int) * (ch n i : Int) = (n : Int) * (ch n i : Int) := by exact_mod_cast h1
      rw [Int.mul_sub, Int.mul_comm (ch n i : Int) (n : Int), ← h3, Int.mul_comm (ch n i : Int) (i : Int)]
      omega
    rw [h2, Int.mul_ediv_cancel_left _ (by omega)]
  · rw [ch_big n i (by omega), ch_big n (i + 1) (by omega)]
    simp
/-- keys that are texts -/
def kw (t : Tx) : Key := .inr (S t)
theorem kw_inj (a b : Tx) (h : kw a = kw b) : a = b := S_inj (Sum.inr.inj h)
abbrev nat (n : Nat) : V := .int ((n : Nat) : Int)
def dkw (ws : List Tx) (f : Ser) : List (Key × V) := dk kw ws fun w => nat (f w)
/-- a list of words to be counted -/
structure Wds (ws : List Tx) : Prop where
  nd : ws.Nodup
  up : ws.Pairwise fun u v => u.length ≤ v.length
  take : ∀ w ∈ ws, ∀ i, w.take i ∈ ws
  drop : ∀ w ∈ ws, ∀ i, w.drop i ∈ ws
  low : ∀ w ∈ ws, w.length ≤ 3
  few : ws.length ≤ 200
  nil : [] ∈ ws
/-- a dict comprehension over keys that are known -/
theorem dc_vals {α : Type} [DecidableEq α] {κ : α → Key} (inj : ∀ a b, κ a = κ b → a = b) {J : It} {n : Nat} {G : Hp → Prop} {Y : Nat → Hp → V → Hp → Prop} (w : Walk J n G Y) {ks : List α} {f : α → V} (nd : ks.Nodup) (hn : ks.length = n) (hz : n ≤ 1000) {g : TG} {tt : TT} {tk te : TE} {vs : List Nat} {σ : L2.St} {H0 : Hp} {D : Addr} {Qd : Hp → Prop} (hD : H0 D = none) (hG : ∀ H1, Same H0 H1 → G H1)
    (hs : ∀ i a x H1 H2, ks[i]? = some a → i < n → Same H0 H1 → Y i H1 x H2 → Same H1 H2 ∧ ∀ (R : V → VK) (E : Hp → Prop), (∀ H3, Same H2 H3 → R (kV (κ a)) (f a) H3) → g x (wipe σ vs) H2 fun σ2 H3 => wipe σ2 vs = wipe σ vs ∧ tt σ2 H3 fun b H4 => if b = true then tk σ2 H4 fun y H5 => te σ2 H5 fun z H6 => R y z H6 else E H4)
    (hd : ∀ H', Same H0 H' → H' D = some (.dK (dk κ ks f)) → Qd H') :
    ∃ W : Nat → Nat → Hp → Prop, (∃ m, W 0 m (upd H0 D (.dK []))) ∧ ∀ i m H, W i m H → (J.stop i H ∧ Qd H) ∨ (J.go i H ∧ ∃ Nx : Hp → Prop, (∀ H', Nx H' → ∃ m', m' < m ∧ W (i + 1) m' H') ∧ ∀ x H', J.yld i H x H' →
      g x (wipe σ vs) H' fun σ2 H2 => wipe σ2 vs = wipe σ vs ∧ tt σ2 H2 fun b H3 => if b = true then tk σ2 H3 fun y H4 => te σ2 H4 fun z H5 => ∃ kvs k, y = kV k ∧ H5 D = some (.dK kvs) ∧ kvs.length < sizeLine ∧ Nx (upd H5 D (.dK (putK kvs k z))) else Nx H3) := by
  refine it_go w (Body := fun x H' Nx => g x (wipe σ vs) H' fun σ2 H2 => wipe σ2 vs = wipe σ vs ∧ tt σ2 H2 fun b H3 => if b = true then tk σ2 H3 fun y H4 => te σ2 H4 fun z H5 => ∃ kvs k, y = kV k ∧ H5 D = some (.dK kvs) ∧ kvs.length < sizeLine ∧ Nx (upd H5 D (.dK (putK kvs k z))) else Nx H3)
    (fun i H1 => Same H0 H1 ∧ H1 D = some (.dK (dk κ (ks.take i) f))) ⟨sm_new hD _, upd_same⟩ (fun i H1 _ p => hG H1 p.1) (fun i x H1 H2 hi p y => ?_) (fun H1 p => hd H1 p.1 (by rw [p.2, ← hn, List.take_length]))
  have hx : ks[i]? = some ks[i] := List.getElem?_eq_getElem (by omega)
  obtain ⟨s1, hb⟩ := hs i ks[i] x H1 H2 hx hi p.1 y
  refine hb (fun y z H5 => ∃ kvs k, y = kV k ∧ H5 D = some (.dK kvs) ∧ kvs.length < sizeLine ∧ (fun H1 => Same H0 H1 ∧ H1 D = some (.dK (dk κ (ks.take (i + 1)) f))) (upd H5 D (.dK (putK kvs k z)))) _ fun H3 s3 => ⟨_, _, rfl, s3 _ _ (s1 _ _ p.2), ?_, ((p.1.trans s1).trans s3).mut hD _, ?_⟩
  · rw [dk_len, List.length_take]
    exact small1000 (by omega)
  · rw [upd_same, put_dk inj, ins_take nd hx]
    refine congrArg (fun z => some (HO.dK z)) (dk_congr fun b hb => ?_)
    by_cases e : b = ks[i]
    · rw [if_pos e, e]
    · rw [if_neg e]
theorem dkw_congr {ws : List Tx} {f g : Ser} (h : ∀ w ∈ ws, f w = g w) : dkw ws f = dkw ws g := dk_congr fun w hw => congrArg nat (h w hw)
/-- the one on these words, the other elsewhere -/
def mix (l : List Tx) (f g : Ser) : Ser := fun w => if w ∈ l then f w else g w
theorem mix_nil (f g : Ser) : mix [] f g = g := funext fun w => if_neg List.not_mem_nil
theorem mix_in {l : List Tx} {f g : Ser} {w : Tx} (h : w ∈ l) : mix l f g w = f w := if_pos h
theorem mix_out {l : List Tx} {f g : Ser} {w : Tx} (h : w ∉ l) : mix l f g w = g w := if_neg h
theorem mix_put {ws l : List Tx} {f g : Ser} {a : Tx} (ha : a ∈ ws) : putK (dkw ws (mix l f g)) (kw a) (nat (f a)) = dkw ws (mix (a :: l) f g) := by
  unfold dkw
  rw [put_dk kw_inj]
  have e : ins ws a = ws := by unfold ins; rw [if_pos ha]
  rw [e]
  refine dk_congr fun w hw => ?_
  by_cases e : w = a
  · subst e
    rw [if_pos rfl, mix_in (List.mem_cons_self ..)]
  · rw [if_neg e]
    by_cases m : w ∈ l
    · rw [mix_in m, mix_in (List.mem_cons_of_mem _ m)]
    · rw [mix_out m, mix_out (by rw [List.mem_cons]; exact fun z => z.elim e m)]
theorem mix_same {l : List Tx} {f g : Ser} {a : Tx} (h : a ∉ l) (e : f a = g a) : mix (a :: l) f g = mix l f g := by
  funext w
  by_cases z : w = a
  · subst z
    rw [mix_in (List.mem_cons_self ..), mix_out h, e]
  · by_cases m : w ∈ l
    · rw [mix_in m, mix_in (List.mem_cons_of_mem _ m)]
    · rw [mix_out m, mix_out (by rw [List.mem_cons]; exact fun y => y.elim z m)]
theorem drop_cons' {α : Type} {t : List α} {k : Nat} {c : α} (h : t[k]? = some c) : t.drop k = c :: t.drop (k + 1) := by
  obtain ⟨h1, h2⟩ := List.getElem?_eq_some_iff.mp h
  rw [List.drop_eq_getElem_cons h1, h2]
theorem wval {ws : List Tx} {f : Ser} {w : Tx} (h : w ∈ ws) : valV (dkw ws f) (kw w) = some (nat (f w)) := (val_dk kw_inj w _ ws).trans (if_pos h)
section
variable {P : Program} {w : World} {K : PySem.W.Frag} {mg : Str → Option Value} {base : Heap}
theorem scBinomial : FnScope ["number", "size", "found", "at"] ["number", "size"] (defScope sBinomial) := fnScope_by (by decide +kernel)
def spBinomial : Sp := fun vs H Q _ => ∃ (n k : Nat), vs = [nat n, nat k] ∧ n < 2 ^ 100 ∧ k ≤ 10 ∧ Q (nat (ch n k)) H
theorem c_binomial (C : Ctx K mg) : Cal P w K mg base 1 "binomial" spBinomial [] := by
  refine (fBinomial C).cal scBinomial (fun _ _ _ _ _ _ us hl => match us, hl with | [_, _], _ => rfl) (fun vs H Q E h => ?_) (fun cdv A outer s H vs Q E hr h => ?_)
  · obtain ⟨n, k, rfl, _⟩ := h
    rfl
  obtain ⟨n, k, rfl, hn, hk, q⟩ := h
  have nd := scBinomial.nd
  refine ⟨_, pss_cons (ps_set (i := 2) nd rfl (Or.inl rfl) pe_int)
    (pss_cons (ps_for PassesOwn.never rfl (pi_range1 rfl (b_range C) (pa_cons (pv 1) pa_nil)) (pg_name (i := 3) nd rfl (Or.inl rfl))
      (pss_one (ps_set (i := 2) nd rfl (Or.inl rfl) (pe_op op_fdivW (pe_op op_mulW (pv 2) (pe_op op_sub (pv 0) (pv 3))) (pe_op op_add (pv 3) pe_int)))))
    (pss_one (ps_ret (pv 2)))), ?_⟩
  refine ⟨nat k, rfl, _, rfl, by omega, by omega, for_range (lo := 0) (fun i σ H' => ∃ (v : Option V), σ = [some (nat n), some (nat k), some (nat (ch n i)), v] ∧ H' = H) ⟨none, by rw [ch_zero]; rfl, rfl⟩ (fun i σ H' hi p => ?_) (fun σ H' p => ?_)⟩
  · obtain ⟨v, rfl, rfl⟩ := p
    have hi : i < 10 := by omega
    refine ⟨_, rfl, nat n, rfl, _, rfl, _, _, rfl, rfl, _, _, rfl, rfl, wide_mul (a := 101 * i + 1) (b := 101) ?_ ?_ (by omega) (by omega) (by omega), _, rfl, _, _, rfl, rfl, _, _, rfl, rfl, wide_div (b := 10) (by omega) ?_ (by decide) (by decide), some (.int (0 + ((i : Nat) : Int))), ?_, rfl⟩
    · exact Nat.lt_of_le_of_lt (by omega) (ch_lt (k := i) hn)
    · have : (((n : Nat) : Int) - (0 + ((i : Nat) : Int))).natAbs ≤ n + 10 := by omega
      have h2 : (2 : Nat) ^ 101 = 2 ^ 100 + 2 ^ 100 := by decide
      have h3 : 10 < 2 ^ 100 := by decide
      omega
    · have : ((0 + ((i : Nat) : Int)) + 1).natAbs ≤ 11 := by omega
      omega
    · have e : ((ch n i : Nat) : Int) * (((n : Nat) : Int) - (0 + ((i : Nat) : Int))) / ((0 + ((i : Nat) : Int)) + 1) = ((ch n (i + 1) : Nat) : Int) := by
        rw [Int.zero_add]
        exact ch_next n i
      show [_, _, some (V.int _), _] = _
      rw [e]
  · obtain ⟨v, rfl, rfl⟩ := p
    refine ⟨_, rfl, ?_⟩
    simpa using q
theorem scWordsCounted : FnScope ["words", "text", "found", "letter", "word"] ["words", "text"] (defScope sWordsCounted) := fnScope_by (by decide +kernel)
def RD (ws : List Tx) (f : Ser) (H : Hp) (Q : VK) : Prop := ∀ p H', H p = none → Same H H' → H' p = some (.dK (dkw ws f)) → Q (.ref p) H'
def spWordsCounted : Sp := fun vs H Q _ => ∃ (a : Addr) (ws : List Tx) (t : Tx), vs = [.ref a, tV t] ∧ H a = some (.lst (ws.map tV)) ∧ Wds ws ∧ RD ws (cn t) H Q
theorem c_words_counted (C : Ctx K mg) : Cal P w K mg base 1 "words_counted" spWordsCounted [] := by
  refine (fWordsCounted C).cal scWordsCounted (fun _ _ _ _ _ _ us hl => match us, hl with | [_, _], _ => rfl) (fun vs H Q E h => ?_) (fun cdv A outer s H vs Q E hr h => ?_)
  · obtain ⟨a, ws, t, rfl, _⟩ := h
    rfl
  obtain ⟨a, ws, t, rfl, ha, W, q⟩ := h
  have hu := hu_of hr
  have nd := scWordsCounted.nd
  refine ⟨_, pss_cons (ps_setDc (i := 2) (own := [("word", 4)]) (g := gName 4) (by rfl) nd rfl rfl (swd_true rfl rfl rfl (by decide +kernel)) (pi_list (pv 0))
      (blkOk_by (own := [("word", 4)]) (N := ["words", "text", "found", "letter", "word"]) (sc := defScope sWordsCounted) (by decide +kernel))
      (fun _ _ _ _ _ => pg_name (i := 4) nd rfl (Or.inl rfl)) (fun _ _ _ _ _ => pts_nil) (fun _ _ _ _ _ => pv 4)
      (fun _ _ _ _ _ => pe_callTy call_int1 (by rfl) (b_int C) PyProof.Rows.boot_int (pa_cons (pe_cmpR op_eq (pv 4) pe_str (nomark _)) pa_nil)))
    (pss_cons (ps_for PassesOwn.never rfl (pi_str (pv 1)) (pg_name (i := 3) nd rfl (Or.inl rfl))
      (pss_one (ps_for PassesOwn.never rfl (pi_reversed (by rfl) (b_reversed C) (pa_cons (pv 0) pa_nil)) (pg_name (i := 4) nd rfl (Or.inl rfl))
        (pss_one (ps_if (pt_cmpR op_eq (pe_slice sl_str (pv 4) (po_some (pe_op op_sub (pe_callB call_len_str (by rfl) (b_len C) boot_len (pa_cons (pv 4) pa_nil)) pe_int)) po_none) (pv 3) (nomark _))
          (pss_one (ps_dput hu (pv 2) (pv 4) (pe_op op_add (pe_dget hu (pv 2) (pv 4) (fun _ _ => rfl)) (pe_dget hu (pv 2) (pe_slice sl_str (pv 4) po_none (po_some (pe_op op_sub (pe_callB call_len_str (by rfl) (b_len C) boot_len (pa_cons (pv 4) pa_nil)) pe_int))) (fun _ _ => rfl))) rfl))
          pss_nil)))))
    (pss_one (ps_ret (pv 2)))), ?_⟩
  refine ⟨.ref a, rfl, a, rfl, ⟨_, sq ha⟩, fun D hD => dc_vals (κ := kw) kw_inj (walk_list (K := K) (a := a) (xs := ws.map tV)) (ks := ws) (f := fun w => nat (cn [] w)) W.nd (by simp) (by have := W.few; simp; omega) hD (fun H1 s1 => sq (s1 _ _ ha)) (fun i w x H1 H2 hx hi s1 y => ?_) (fun H1 s1 hD1 => ?_)⟩
  · obtain ⟨rfl, hx2⟩ := y
    rw [List.getElem?_map, hx] at hx2
    obtain rfl : tV w = x := Option.some.inj hx2
    refine ⟨Same.refl _, fun R E hR => ⟨rfl, tV w, rfl, tV w, rfl, rfl, .inr ⟨_, rfl, ?_⟩⟩⟩
    have e : (V.int (if decide (tV w = V.str "") = true then 1 else 0)) = nat (cn [] w) := by
      cases w with
      | nil => rfl
      | cons c w =>
        rw [decide_eq_false]
        · rfl
        · intro z
          have : S (c :: w) = S [] := V.str.inj z
          have := S_inj this
          cases this
    rw [e]
    exact hR _ (Same.refl _)
  have hD1 : H1 D = some (.dK (dkw ws (cn []))) := hD1
  refine ⟨tV t, rfl, S t, rfl, for_go walk_str (fun i σ H' => ∃ v3 v4 : Option V, σ = [some (.ref a), some (tV t), some (.ref D), v3, v4] ∧ Same H H' ∧ H' D = some (.dK (dkw ws (cn (t.take i))))) ⟨none, none, rfl, s1, hD1⟩ (fun _ _ _ _ _ => trivial) (fun i x σ H2 H3 hi p y => ?_) (fun σ H' p => ?_)⟩
  · obtain ⟨v3, v4, rfl, sm, hDi⟩ := p
    obtain ⟨rfl, b, hb, rfl⟩ := y
    have htb : t[i]? = some b := by
      have : (S t).cps.toList[i]? = some b := by rw [← hb, Array.getElem?_toList]
      exact this
    have etk : t.take (i + 1) = t.take i ++ [b] := by
      rw [List.take_add_one, htb]
      rfl
    refine ⟨.ref a, rfl, a, ws.map tV, rfl, sq (sm _ _ ha), for_go (walk_rev (K := K) (a := a) (xs := ws.map tV)) (fun j σ H' => ∃ v4 : Option V, σ = [some (.ref a), some (tV t), some (.ref D), some (.str ⟨#[b]⟩), v4] ∧ Same H H' ∧ H' D = some (.dK (dkw ws (mix (ws.drop (ws.length - j)) (cn (t.take (i + 1))) (cn (t.take i)))))) ⟨v4, rfl, sm, ?_⟩ (fun j σ H' _ p => ?_) (fun j x σ H4 H5 hj p y => ?_) (fun σ H' p => ?_)⟩
    · rw [hDi, Nat.sub_zero, List.drop_length, mix_nil]
    · obtain ⟨v4, _, sm', _⟩ := p
      exact sq (sm' _ _ ha)
    · obtain ⟨v4, rfl, sm', hDj⟩ := p
      obtain ⟨rfl, hx⟩ := y
      rw [List.length_map] at hj hx
      obtain ⟨w, hw, rfl⟩ := get_map hx
      have hwm := List.mem_of_getElem? hw
      have hwl := W.low w hwm
      generalize hk : ws.length - 1 - j = k at hw
      have ek : ws.length - j = k + 1 := by omega
      have ek1 : ws.length - (j + 1) = k := by omega
      have hsplit := drop_cons' hw
      rw [ek] at hDj
      rw [ek1]
      have hnot : w ∉ ws.drop (k + 1) := by
        have h1 := W.nd.sublist (List.drop_sublist k ws)
        rw [hsplit, List.nodup_cons] at h1
        exact h1.1
      have hup : ∀ v ∈ ws.drop (k + 1), w.length ≤ v.length := by
        have h1 := W.up.sublist (List.drop_sublist k ws)
        rw [hsplit, List.pairwise_cons] at h1
        exact h1.1
      have hz : (S w).length ≤ sizeLine := smallT (by omega)
      refine ⟨tV w, rfl, tV w, rfl, S w, rfl, hz, _, _, rfl, rfl, _, rfl, _, rfl, hz, .str ⟨#[b]⟩, rfl, rfl, _, rfl, ?_⟩
      rcases List.eq_nil_or_concat w with rfl | ⟨u, c, rfl⟩
      · rw [decide_eq_false]
        · refine iteF ⟨some (tV []), rfl, sm', ?_⟩
          rw [hDj, hsplit, mix_same hnot (show cn (t.take (i + 1)) [] = cn (t.take i) [] from (cnt_nil _).trans (cnt_nil _).symm)]
        · intro z
          have z2 : cutS (S []) (some (-1)) none = (⟨#[b]⟩ : Str) := V.str.inj z
          have z3 : (cutS (S []) (some (-1)) none).cps.toList = [b] := congrArg (fun q : Str => q.cps.toList) z2
          have z4 : (cutS (S []) (some (-1)) none).cps.toList = [] := by decide
          rw [z4] at z3
          cases z3
      · rw [List.concat_eq_append] at *
        have e1 : cutS (S (u ++ [c])) (some ((((S (u ++ [c])).length : Nat) : Int) - 1)) none = S [c] := by
          rw [S_len, show (((u ++ [c]).length : Nat) : Int) - 1 = ((u.length : Nat) : Int) by simp, cut_from _ (by simp)]
          exact congrArg S (List.drop_left ..)
        have e2 : cutS (S (u ++ [c])) none (some ((((S (u ++ [c])).length : Nat) : Int) - 1)) = S u := by
          rw [S_len, show (((u ++ [c]).length : Nat) : Int) - 1 = ((u.length : Nat) : Int) by simp, cut_to _ (by simp)]
          exact congrArg S (List.take_left ..)
        have hum : u ∈ ws := by
          have := W.take _ hwm u.length
          rwa [List.take_left] at this
        have hun : u ∉ ws.drop (k + 1) := fun z => by
          have := hup u z
          simp at this
          omega
        rw [e1]
        by_cases ecb : c = b
        · subst ecb
          rw [decide_eq_true rfl]
          refine iteT ?_
          refine ⟨.ref D, rfl, tV (u ++ [c]), rfl, D, _, rfl, .inl ⟨_, kw (u ++ [c]), .inl hDj, rfl, (wval hwm).symm⟩, .ref D, rfl, tV (u ++ [c]), rfl, tV (u ++ [c]), rfl, S (u ++ [c]), rfl, hz, _, _, rfl, rfl, _, rfl, _, rfl, hz, D, _, rfl, .inl ⟨_, kw u, .inl hDj, congrArg V.str e2, (wval hum).symm⟩, _, _, rfl, rfl, ?_⟩
          refine ⟨.ref D, rfl, tV (u ++ [c]), rfl, D, _, rfl, DPut.k (k := kw (u ++ [c])) hDj (by unfold dkw; rw [dk_len]; have := W.few; exact small1000 (by omega)), _, rfl, sm'.mut hD _, ?_⟩
          rw [upd_same, hsplit, ← mix_put hwm, mix_out hnot, mix_out hun, etk]
          refine congrArg (fun z => some (HO.dK (putK (dkw ws (mix (ws.drop (k + 1)) (cn (t.take i ++ [c])) (cn (t.take i)))) (kw (u ++ [c])) (V.int z)))) ?_
          have h5 : cn (t.take i ++ [c]) (u ++ [c]) = cn (t.take i) (u ++ [c]) + cn (t.take i) u := (cnt_snoc u (t.take i) c c).trans (by rw [if_pos rfl]; rfl)
          rw [h5]
          omega
        · rw [decide_eq_false (show ¬ V.str (S [c]) = V.str ⟨#[b]⟩ from fun z => ecb (by
            have : S [c] = S [b] := V.str.inj z
            have := S_inj this
            injection this))]
          refine iteF ⟨some (tV (u ++ [c])), rfl, sm', ?_⟩
          have h5 : cn (t.take (i + 1)) (u ++ [c]) = cn (t.take i) (u ++ [c]) := by
            rw [etk]
            exact (cnt_snoc u (t.take i) b c).trans (by rw [if_neg ecb]; rfl)
          rw [hDj, hsplit, mix_same hnot h5]
    · obtain ⟨v4, rfl, sm', hDj⟩ := p
      refine ⟨_, v4, rfl, sm', ?_⟩
      rw [hDj, List.length_map, Nat.sub_self, List.drop_zero]
      exact congrArg (fun z => some (HO.dK z)) (dkw_congr fun w hw => mix_in hw)
  · obtain ⟨v3, v4, rfl, sm, hDi⟩ := p
    refine ⟨.ref D, rfl, q D H' hD sm ?_⟩
    have e : (S t).cps.size = t.length := S_len t
    rw [hDi, e, List.take_length]
theorem scJoinedCounts : FnScope ["words", "one", "other", "found", "word", "at"] ["words", "one", "other"] (defScope sJoinedCounts) := fnScope_by (by decide +kernel)
def spJoinedCounts : Sp := fun vs H Q _ => ∃ (a d1 d2 : Addr) (ws : List Tx) (f g : Ser) (B1 B2 : Nat), vs = [.ref a, .ref d1, .ref d2] ∧ H a = some (.lst (ws.map tV)) ∧ Wds ws ∧ H d1 = some (.dK (dkw ws f)) ∧ H d2 = some (.dK (dkw ws g)) ∧ Sm f B1 ∧ Sm g B2 ∧ (0 < B1 ∧ 0 < B2 ∧ B1 + B2 ≤ 1000000) ∧ RD ws (conv f g) H Q
theorem c_joined_counts (C : Ctx K mg) : Cal P w K mg base 1 "joined_counts" spJoinedCounts [] := by
  refine (fJoinedCounts C).cal scJoinedCounts (fun _ _ _ _ _ _ us hl => match us, hl with | [_, _, _], _ => rfl) (fun vs H Q E h => ?_) (fun cdv A outer s H vs Q E hr h => ?_)
  · obtain ⟨a, d1, d2, ws, f, g, B1, B2, rfl, _⟩ := h
    rfl
  obtain ⟨a, d1, d2, ws, f, g, B1, B2, rfl, ha, W, h1, h2, m1, m2, ⟨b1, b2, b3⟩, q⟩ := h
  have hu := hu_of hr
  have nd := scJoinedCounts.nd
  refine ⟨_, pss_cons (ps_set (i := 3) nd rfl (Or.inl rfl) pe_dnewK)
    (pss_cons (ps_for PassesOwn.never rfl (pi_list (pv 0)) (pg_name (i := 4) nd rfl (Or.inr rfl))
      (pss_one (ps_dput hu (pv 3) (pv 4) (pe_callB (crSum (K := K) rfl rfl) (by rfl) (b_sum C) boot_sum (pa_cons (pe_lc (own := [("at", 5)]) (g := gName 5) (by rfl) nd (pi_range1 rfl (b_range C) (pa_cons (pe_op op_add (pe_callB call_len_str (by rfl) (b_len C) boot_len (pa_cons (pv 4) pa_nil)) pe_int) pa_nil))
        (blkOk_by (own := [("at", 5)]) (N := ["words", "one", "other", "found", "word", "at"]) (sc := defScope sJoinedCounts) (by decide +kernel))
        (fun _ _ _ _ _ => pg_name (i := 5) nd rfl (Or.inl rfl)) (fun _ _ _ _ _ => pts_nil)
        (fun _ _ _ _ _ => pe_op op_mulW (pe_dget hu (pv 1) (pe_slice sl_str (pv 4) po_none (po_some (pv 5))) (fun _ _ => rfl)) (pe_dget hu (pv 2) (pe_slice sl_str (pv 4) (po_some (pv 5)) po_none) (fun _ _ => rfl)))) pa_nil)) rfl)))
    (pss_one (ps_ret (pv 3)))), ?_⟩
  intro D hD
  refine ⟨.ref a, rfl, a, rfl, ⟨_, sq (sm_new hD _ _ _ ha)⟩, for_go (walk_list (K := K) (a := a) (xs := ws.map tV)) (fun i σ H' => ∃ v4 : Option V, σ = [some (.ref a), some (.ref d1), some (.ref d2), some (.ref D), v4, none] ∧ Same H H' ∧ H' D = some (.dK (dk kw (ws.take i) fun w => nat (conv f g w)))) ⟨none, rfl, sm_new hD _, upd_same⟩ (fun i σ H' _ p => ?_) (fun i x σ H2 H3 hi p y => ?_) (fun σ H' p => ?_)⟩
  · obtain ⟨v4, _, sm, _⟩ := p
    exact sq (sm _ _ ha)
  · obtain ⟨v4, rfl, sm, hDi⟩ := p
    obtain ⟨rfl, hx⟩ := y
    obtain ⟨w, hw, rfl⟩ := get_map hx
    have hwm := List.mem_of_getElem? hw
    have hwl := W.low w hwm
    have hz : (S w).length ≤ sizeLine := smallT (by omega)
    refine ⟨tV w, rfl, S w, rfl, hz, _, _, rfl, rfl, _, rfl, by omega, by rw [S_len]; omega, fun L hL => ?_⟩
    have el : ((((S w).length : Nat) : Int) + 1).toNat = w.length + 1 := by rw [S_len]; omega
    rw [el]
    refine lc_vals (walk_range (lo := 0) (n := w.length + 1)) (xs := ((List.range (w.length + 1)).map fun i => ((f (w.take i) * g (w.drop i) : Nat) : Int)).map V.int) (by simp) (by omega) hL (fun _ _ => trivial) (fun j v x H4 H5 hv hj s4 y => ?_) (fun H4 s4 hL4 => ?_)
    · obtain ⟨rfl, rfl⟩ := y
      rw [List.getElem?_map, List.getElem?_map, List.getElem?_range hj] at hv
      obtain rfl : V.int ((f (w.take j) * g (w.drop j) : Nat) : Int) = v := Option.some.inj hv
      refine ⟨Same.refl _, fun R E hR => ⟨rfl, ?_⟩⟩
      have ej : (0 : Int) + ((j : Nat) : Int) = ((j : Nat) : Int) := Int.zero_add _
      have s5 := sm.trans s4
      refine ⟨.ref d1, rfl, tV w, rfl, _, rfl, _, rfl, _, rfl, hz, d1, _, rfl, .inl ⟨_, kw (w.take j), .inl (s5 _ _ h1), ?_, (wval (W.take w hwm j)).symm⟩, .ref d2, rfl, tV w, rfl, _, rfl, _, rfl, _, rfl, hz, d2, _, rfl, .inl ⟨_, kw (w.drop j), .inl (s5 _ _ h2), ?_, (wval (W.drop w hwm j)).symm⟩, _, _, rfl, rfl, ?_, ?_⟩
      · rw [ej, cut_to w (by omega)]
        rfl
      · rw [ej, cut_from w (by omega)]
        rfl
      · exact wide_mul (a := B1) (b := B2) (m1 _ (by rw [List.length_take]; omega)) (m2 _ (by rw [List.length_drop]; omega)) b1 b2 b3
      · have := hR H5 (Same.refl _)
        rw [Int.natCast_mul] at this
        exact this
    · refine ⟨L, _, rfl, sq hL4, ?_⟩
      have hD4 := s4 _ _ hDi
      refine ⟨.ref D, rfl, tV w, rfl, D, _, rfl, DPut.k (k := kw w) hD4 (by rw [dk_len, List.length_take]; have := W.few; exact small1000 (by omega)), _, rfl, (sm.trans s4).mut hD _, ?_⟩
      rw [upd_same, put_dk kw_inj, ins_take W.nd hw]
      refine congrArg (fun z => some (HO.dK z)) (dk_congr fun z hz => ?_)
      by_cases e : z = w
      · subst e
        rw [if_pos rfl, conv_sum]
        refine congrArg V.int ?_
        rw [← nV_sum, List.map_map]
        rfl
      · rw [if_neg e]
  · obtain ⟨v4, rfl, sm, hDi⟩ := p
    refine ⟨.ref D, rfl, q D H' hD sm ?_⟩
    rw [hDi, List.length_map, List.take_length]
    rfl
end
end Sk
end
section
set_option Elab.async false
set_option linter.all false
set_option maxRecDepth 100000
set_option maxHeartbeats 4000000
namespace Sk
open PySem PySem.Spec PyProof.Rows L2 SX C8
/-- what a kept text leans on -/
def Solid : HO → Prop
  | .lst xs => ∀ x ∈ xs, ∃ a, x = V.ref a
  | .tup _ => True
  | .ins _ _ fs => fs.length = 4
  | _ => False
def Keep (H H' : Hp) : Prop := ∀ b o, H b = some o → Solid o → H' b = some o
theorem Keep.refl (H : Hp) : Keep H H := fun _ _ h _ => h
theorem Keep.trans {H H1 H2 : Hp} (a : Keep H H1) (b : Keep H1 H2) : Keep H H2 := fun c o h s => b c o (a c o h s) s
theorem Keep.of {H H' : Hp} (s : Same H H') : Keep H H' := fun b o h _ => s b o h
theorem Keep.but {H H' : Hp} {g : Addr} {u : HO} (a : But g H H') (hg : H g = some u) (n : ¬ Solid u) : Keep H H' := fun b v h s => a b v h fun e => by
  rw [e, hg] at h
  exact n ((Option.some.inj h) ▸ s)
abbrev KC (K : PySem.W.Frag) : Addr := He.ga K "Kept"
/-- a piece: its part, how often, the text that it stands for -/
abbrev Pc := V × Nat × Tx
def whole (its : List Pc) : Tx := (its.map fun q => rep q.2.2 q.2.1).flatten
/-- the list of pieces by its tuples -/
def Tups (T : V → Tx → Prop) (H : Hp) (ts : List Addr) (its : List Pc) : Prop := ts.length = its.length ∧ ∀ (i : Nat) (q : Pc), its[i]? = some q → ∃ a, ts[i]? = some a ∧ H a = some (.tup [q.1, nat q.2.1]) ∧ T q.1 q.2.2 ∧ q.2.1 < 2 ^ 100
def Part (K : PySem.W.Frag) : Nat → Hp → V → Tx → Prop
  | 0, _, v, t => v = tV t ∧ t.length ≤ 4 ∧ Abc t
  | n + 1, H, v, t => ∃ (x dx p c : Addr) (sz : Nat) (ts : List Addr) (its : List Pc), v = .ref x ∧ H x = some (.ins (KC K) dx [("_pieces", .ref p), ("_size", nat sz), ("_length", nat t.length), ("_counted", .ref c)]) ∧
      H p = some (.lst (ts.map V.ref)) ∧ Tups (Part K n H) H ts its ∧ sz ≤ 10 * (n + 1) ∧ t = whole its ∧ t.length ≤ 10 ^ 60 ∧ its.length ≤ 4
theorem Tups.imp {T T' : V → Tx → Prop} {H H' : Hp} {ts : List Addr} {its : List Pc} (h : Tups T H ts its) (k : Keep H H') (ht : ∀ v t, T v t → T' v t) : Tups T' H' ts its :=
  ⟨h.1, fun i q e => let ⟨a, h1, h2, h3, h4⟩ := h.2 i q e; ⟨a, h1, k _ _ h2 trivial, ht _ _ h3, h4⟩⟩
theorem Part.keep {K : PySem.W.Frag} {H H' : Hp} (k : Keep H H') : ∀ {n : Nat} {v : V} {t : Tx}, Part K n H v t → Part K n H' v t
  | 0, _, _, h => h
  | n + 1, _, _, ⟨x, dx, p, c, sz, ts, its, h1, h2, h3, h4, h5⟩ => ⟨x, dx, p, c, sz, ts, its, h1, k _ _ h2 rfl, k _ _ h3 (fun y hy => by
      obtain ⟨a, _, rfl⟩ := List.mem_map.mp hy
      exact ⟨a, rfl⟩), h4.imp k fun _ _ => Part.keep k, h5⟩
theorem Tups.get {T : V → Tx → Prop} {H : Hp} {ts : List Addr} {its : List Pc} (h : Tups T H ts its) {i : Nat} {x : V} (e : (ts.map V.ref)[i]? = some x) : ∃ (a : Addr) (q : Pc), x = .ref a ∧ its[i]? = some q ∧ H a = some (.tup [q.1, nat q.2.1]) ∧ T q.1 q.2.2 ∧ q.2.1 < 2 ^ 100 := by
  obtain ⟨a, ha, rfl⟩ := get_map e
  have hi : i < its.length := by
    have := (List.getElem?_eq_some_iff.mp ha).1
    rw [h.1] at this
    exact this
  obtain ⟨b, h1, h2, h3, h4⟩ := h.2 i its[i] (List.getElem?_eq_getElem hi)
  rw [ha] at h1
  obtain rfl := Option.some.inj h1
  exact ⟨a, _, rfl, List.getElem?_eq_getElem hi, h2, h3, h4⟩
section
variable {P : Program} {w : World} {K : PySem.W.Frag} {mg : Str → Option Value} {base : Heap}
theorem callIsi {X : Cx} (h : X.K = K) : CallR X (.builtin "isinstance") (rIsi K) := h ▸ call_isi
theorem callListOf {X : Cx} (h : X.K = K) : CallR X (.type "list") (fun xs H Q => ∃ p ys, xs = [.ref p] ∧ (SqL K H p ys ∨ SqT K H p ys) ∧ ∀ l, H l = none → Q (.ref l) (upd H l (.lst ys))) := h ▸ call_list_of
theorem isi_part (C : Ctx K mg) {n : Nat} {H : Hp} {v : V} {t : Tx} (h : Part K n H v t) : ∃ ty u : Value, ClsV (.ref (KC K)) u ∧ TyX K H v ty ∧ PySem.W.kitOne K ty u = some (decide (n ≠ 0)) := by
  cases n with
  | zero =>
    obtain ⟨rfl, _⟩ := h
    exact ⟨.type "str", .ref (KC K), .own _, .base (.str _), C.isText⟩
  | succ n =>
    obtain ⟨x, dx, p, c, sz, ts, its, rfl, h2, _⟩ := h
    exact ⟨.ref (KC K), .ref (KC K), .own _, C.tyKept (clKept C) h2, C.isKept⟩
/-! the methods -/
theorem scKeptPieces : FnScope ["self"] ["self"] (defScope sKeptPieces) := fnScope_by (by decide +kernel)
theorem c_pieces (C : Ctx K mg) : Met P w K mg base 1 (KC K) "pieces" (fun vs H Q _ => ∃ (x dx p : Addr) (xs : List V) (a b c : V), vs = [.ref x] ∧ H x = some (.ins (KC K) dx [("_pieces", .ref p), ("_size", a), ("_length", b), ("_counted", c)]) ∧ H p = some (.lst xs) ∧ RL xs H Q) [] := by
  refine (fKeptPieces C).met (me_pieces C) scKeptPieces (fun _ _ _ _ _ _ us hl => match us, hl with | [_], _ => rfl) (fun vs H Q E h => ?_) (fun cdv A outer s H vs Q E hr h => ?_)
  · obtain ⟨x, dx, p, xs, a, b, c, rfl, _⟩ := h
    rfl
  obtain ⟨x, dx, p, xs, a, b, c, rfl, hx, hp, q⟩ := h
  refine ⟨_, pss_one (ps_ret (pe_callTy (callListOf (K := K) rfl) (by rfl) (b_list C) PyProof.Rows.boot_list (pa_cons (pe_fld (pv 0) rfl) pa_nil))), ?_⟩
  exact ⟨.ref x, rfl, x, _, dx, _, .ref p, rfl, hx, clKept C, na_pieces C, rfl, p, xs, rfl, .inl (sq hp), fun l hl => q l _ hl (sm_new hl _) upd_same⟩
theorem scKeptLength : FnScope ["self"] ["self"] (defScope sKeptLength) := fnScope_by (by decide +kernel)
theorem c_length (C : Ctx K mg) : Met P w K mg base 1 (KC K) "length" (fun vs H Q _ => ∃ (x dx : Addr) (a b c d : V), vs = [.ref x] ∧ H x = some (.ins (KC K) dx [("_pieces", a), ("_size", b), ("_length", c), ("_counted", d)]) ∧ Q c H) [] := by
  refine (fKeptLength C).met (me_length C) scKeptLength (fun _ _ _ _ _ _ us hl => match us, hl with | [_], _ => rfl) (fun vs H Q E h => ?_) (fun cdv A outer s H vs Q E hr h => ?_)
  · obtain ⟨x, dx, a, b, c, d, rfl, _⟩ := h
    rfl
  obtain ⟨x, dx, a, b, c, d, rfl, hx, q⟩ := h
  refine ⟨_, pss_one (ps_ret (pe_fld (pv 0) rfl)), ?_⟩
  exact ⟨.ref x, rfl, x, _, dx, _, c, rfl, hx, clKept C, na_length C, rfl, q⟩
theorem scKeptTuplesIn : FnScope ["self"] ["self"] (defScope sKeptTuplesIn) := fnScope_by (by decide +kernel)
theorem c_tuples_in (C : Ctx K mg) : Met P w K mg base 1 (KC K) "tuples_in" (fun vs H Q _ => ∃ (x dx : Addr) (a b c d : V), vs = [.ref x] ∧ H x = some (.ins (KC K) dx [("_pieces", a), ("_size", b), ("_length", c), ("_counted", d)]) ∧ Q b H) [] := by
  refine (fKeptTuplesIn C).met (me_tuples_in C) scKeptTuplesIn (fun _ _ _ _ _ _ us hl => match us, hl with | [_], _ => rfl) (fun vs H Q E h => ?_) (fun cdv A outer s H vs Q E hr h => ?_)
  · obtain ⟨x, dx, a, b, c, d, rfl, _⟩ := h
    rfl
  obtain ⟨x, dx, a, b, c, d, rfl, hx, q⟩ := h
  refine ⟨_, pss_one (ps_ret (pe_fld (pv 0) rfl)), ?_⟩
  exact ⟨.ref x, rfl, x, _, dx, _, b, rfl, hx, clKept C, na_size C, rfl, q⟩
theorem scKeptCountedAhead : FnScope ["self", "word"] ["self", "word"] (defScope sKeptCountedAhead) := fnScope_by (by decide +kernel)
theorem c_counted_ahead (C : Ctx K mg) : Met P w K mg base 1 (KC K) "counted_ahead" (fun vs H Q _ => ∃ (x dx k : Addr) (a b c : V) (t : Tx) (kvs : List (Key × V)), vs = [.ref x, tV t] ∧ H x = some (.ins (KC K) dx [("_pieces", a), ("_size", b), ("_length", c), ("_counted", .ref k)]) ∧ H k = some (.dK kvs) ∧ valV kvs (kw t) = none ∧ Q .non H) [] := by
  refine (fKeptCountedAhead C).met (me_counted_ahead C) scKeptCountedAhead (fun _ _ _ _ _ _ us hl => match us, hl with | [_, _], _ => rfl) (fun vs H Q E h => ?_) (fun cdv A outer s H vs Q E hr h => ?_)
  · obtain ⟨x, dx, k, a, b, c, t, kvs, rfl, _⟩ := h
    rfl
  obtain ⟨x, dx, k, a, b, c, t, kvs, rfl, hx, hk, hn, q⟩ := h
  have hu := hu_of hr
  refine ⟨_, pss_one (ps_ret (pe_dget2 hu (pe_fld (pv 0) rfl) (pv 1) pe_non ⟨rfl, rfl, rfl, rfl⟩)), ?_⟩
  refine ⟨.ref x, rfl, x, _, dx, _, .ref k, rfl, hx, clKept C, na_counted C, rfl, k, rfl, .inl ⟨_, .inl hk⟩, tV t, rfl, _, DGet.k (k := kw t) hk, ?_⟩
  rw [hn]
  exact q
theorem scKeptKeepCounted : FnScope ["self", "word", "counted"] ["self", "word", "counted"] (defScope sKeptKeepCounted) := fnScope_by (by decide +kernel)
theorem c_keep_counted (C : Ctx K mg) : Met P w K mg base 1 (KC K) "keep_counted" (fun vs H Q _ => ∃ (x dx k : Addr) (a b c : V) (t : Tx) (v : V) (kvs : List (Key × V)), vs = [.ref x, tV t, v] ∧ H x = some (.ins (KC K) dx [("_pieces", a), ("_size", b), ("_length", c), ("_counted", .ref k)]) ∧ H k = some (.dK kvs) ∧ kvs.length ≤ 1000 ∧ Q .non (upd H k (.dK (putK kvs (kw t) v)))) [] := by
  refine (fKeptKeepCounted C).met (me_keep_counted C) scKeptKeepCounted (fun _ _ _ _ _ _ us hl => match us, hl with | [_, _, _], _ => rfl) (fun vs H Q E h => ?_) (fun cdv A outer s H vs Q E hr h => ?_)
  · obtain ⟨x, dx, k, a, b, c, t, v, kvs, rfl, _⟩ := h
    rfl
  obtain ⟨x, dx, k, a, b, c, t, v, kvs, rfl, hx, hk, hn, q⟩ := h
  have hu := hu_of hr
  refine ⟨_, pss_one (ps_dput hu (pe_fld (pv 0) rfl) (pv 1) (pv 2) rfl), ?_⟩
  exact ⟨v, rfl, .ref x, rfl, x, _, dx, _, .ref k, rfl, hx, clKept C, na_counted C, rfl, tV t, rfl, k, _, rfl, DPut.k (k := kw t) hk (small1000 hn), q⟩
/-! the checks -/
theorem scIsPiece : FnScope ["value"] ["value"] (defScope sIsPiece) := fnScope_by (by decide +kernel)
theorem c_is_piece (C : Ctx K mg) : Cal P w K mg base 3 "is_piece" (fun vs H Q _ => ∃ (a : Addr) (v : V) (m n : Nat) (t : Tx), vs = [.ref a] ∧ H a = some (.tup [v, nat m]) ∧ Part K n H v t ∧ Q (.bl true) H) [] := by
  refine (fIsPiece C).cal scIsPiece (fun _ _ _ _ _ _ us hl => match us, hl with | [_], _ => rfl) (fun vs H Q E h => ?_) (fun cdv A outer s H vs Q E hr h => ?_)
  · obtain ⟨a, v, m, n, t, rfl, _⟩ := h
    rfl
  obtain ⟨a, v, m, n, t, rfl, ha, hp, q⟩ := h
  refine ⟨_, pss_cons (ps_if (PW.pt (pw_or (pt_not (pt_val (pe_callB (callIsi (K := K) rfl) (by rfl) (b_isinstance C) boot_isinstance (pa_cons (pv 0) (pa_cons (pe_bltn (v := .ty "tuple") (by rfl) (b_tuple C) PyProof.Rows.boot_tuple rfl) pa_nil)))))
      (pw_or1 (pt_cmpR op_ne (pe_callB call_len_seq (by rfl) (b_len C) boot_len (pa_cons (pv 0) pa_nil)) pe_int (nomark _))))) (pss_one (ps_ret pe_bl)) pss_nil)
    (pss_one (ps_ret (pe_and (pe_or (pe_callB (callIsi (K := K) rfl) (by rfl) (b_isinstance C) boot_isinstance (pa_cons (pe_ix ix_tup (pv 0) pe_int (fun _ _ => rfl)) (pa_cons (pe_glob (v := .ref (KC K)) (by rfl) (gKept C) rfl) pa_nil)))
        (pe_one (pe_c (c_is_letters_alone C) hr (by decide) (by rfl) (pa_cons (pe_ix ix_tup (pv 0) pe_int (fun _ _ => rfl)) pa_nil))))
      (pe_one (pe_c (c_is_between C) hr (by decide) (by rfl) (pa_cons (pe_ix ix_tup (pv 0) pe_int (fun _ _ => rfl)) (pa_cons pe_int (pa_cons pe_non pa_nil)))))))), ?_⟩
  refine ⟨.ref a, rfl, .ref a, .ty "tuple", .type "tuple", .type "tuple", true, rfl, .ty _, .base (.tup ha), kit_ty (by decide +kernel), true, rfl, iteF ?_⟩
  refine ⟨.ref a, rfl, a, _, rfl, .inr (st ha), rfl, _, rfl, iteF ?_⟩
  obtain ⟨ty, u, g1, g2, g3⟩ := isi_part C hp
  refine ⟨.ref a, rfl, a, _, 0, v, rfl, rfl, st ha, rfl, v, .ref (KC K), ty, u, _, rfl, g1, g2, g3, ?_⟩
  cases n with
  | zero =>
    obtain ⟨rfl, h1, h2⟩ := hp
    refine ⟨false, rfl, iteF ⟨.ref a, rfl, a, _, 0, tV t, rfl, rfl, st ha, rfl, t, rfl, by omega, h2.lo, true, rfl, iteT ?_⟩⟩
    exact ⟨.ref a, rfl, a, _, 1, nat m, rfl, rfl, st ha, rfl, m, 0, .non, rfl, by omega, .inl rfl, q⟩
  | succ n =>
    refine ⟨true, rfl, iteT ⟨true, rfl, iteT ?_⟩⟩
    exact ⟨.ref a, rfl, a, _, 1, nat m, rfl, rfl, st ha, rfl, m, 0, .non, rfl, by omega, .inl rfl, q⟩
theorem scLengthOf : FnScope ["part"] ["part"] (defScope sLengthOf) := fnScope_by (by decide +kernel)
theorem c_length_of (C : Ctx K mg) : Cal P w K mg base 2 "length_of" (fun vs H Q _ => ∃ (v : V) (n : Nat) (t : Tx), vs = [v] ∧ Part K n H v t ∧ Q (nat t.length) H) [] := by
  refine (fLengthOf C).cal scLengthOf (fun _ _ _ _ _ _ us hl => match us, hl with | [_], _ => rfl) (fun vs H Q E h => ?_) (fun cdv A outer s H vs Q E hr h => ?_)
  · obtain ⟨v, n, t, rfl, _⟩ := h
    rfl
  obtain ⟨v, n, t, rfl, hp, q⟩ := h
  refine ⟨_, pss_one (ps_ret (pe_ifExp (pt_val (pe_callB (callIsi (K := K) rfl) (by rfl) (b_isinstance C) boot_isinstance (pa_cons (pv 0) (pa_cons (pe_glob (v := .ref (KC K)) (by rfl) (gKept C) rfl) pa_nil))))
    (pe_mt0 (c_length C) hr (by decide) (pv 0)) (pe_callB call_len_str (by rfl) (b_len C) boot_len (pa_cons (pv 0) pa_nil)))), ?_⟩
  obtain ⟨ty, u, g1, g2, g3⟩ := isi_part C hp
  refine ⟨v, rfl, v, .ref (KC K), ty, u, _, rfl, g1, g2, g3, ?_⟩
  cases n with
  | zero =>
    obtain ⟨rfl, h1, h2⟩ := hp
    refine ⟨false, rfl, iteF ⟨tV t, rfl, S t, rfl, smallT (by omega), ?_⟩⟩
    rw [S_len]
    exact q
  | succ n =>
    obtain ⟨x, dx, p, c, sz, ts, its, rfl, h2, _⟩ := hp
    exact ⟨true, rfl, iteT ⟨.ref x, rfl, x, dx, _, rfl, h2, rfl, x, dx, _, _, _, _, rfl, h2, q⟩⟩
theorem scCheckKept : FnScope ["kept"] ["kept"] (defScope sCheckKept) := fnScope_by (by decide +kernel)
theorem c_check_kept (C : Ctx K mg) : Cal P w K mg base 1 "check_kept" (fun vs H Q _ => ∃ (v : V) (n : Nat) (t : Tx), vs = [v] ∧ Part K (n + 1) H v t ∧ Q .non H) [] := by
  refine (fCheckKept C).cal scCheckKept (fun _ _ _ _ _ _ us hl => match us, hl with | [_], _ => rfl) (fun vs H Q E h => ?_) (fun cdv A outer s H vs Q E hr h => ?_)
  · obtain ⟨v, n, t, rfl, _⟩ := h
    rfl
  obtain ⟨v, n, t, rfl, hp, q⟩ := h
  refine ⟨_, pss_one (ps_if (pt_not (pt_val (pe_callB (callIsi (K := K) rfl) (by rfl) (b_isinstance C) boot_isinstance (pa_cons (pv 0) (pa_cons (pe_glob (v := .ref (KC K)) (by rfl) (gKept C) rfl) pa_nil))))) (pss_one ps_never) pss_nil), ?_⟩
  obtain ⟨ty, u, g1, g2, g3⟩ := isi_part C hp
  exact ⟨v, rfl, v, .ref (KC K), ty, u, _, rfl, g1, g2, g3, true, rfl, iteF q⟩
end
end Sk
end
section
set_option Elab.async false
set_option linter.all false
set_option maxRecDepth 100000
set_option maxHeartbeats 4000000
namespace Sk
open PySem PySem.Spec PyProof.Rows L2 SX C8
theorem whole_len (its : List Pc) : (whole its).length = (its.map fun q => q.2.2.length * q.2.1).sum := by
  induction its with
  | nil => rfl
  | cons q r ih =>
    show (rep q.2.2 q.2.1 ++ whole r).length = _
    rw [List.length_append, ih, rep_len, List.map_cons, List.sum_cons, Nat.mul_comm]
/-- how many tuples a part is -/
def Kfields (K : PySem.W.Frag) (H : Hp) (x dx p c : Addr) (sz ln : Nat) : Prop := H x = some (.ins (KC K) dx [("_pieces", .ref p), ("_size", nat sz), ("_length", nat ln), ("_counted", .ref c)])
section
variable {P : Program} {w : World} {K : PySem.W.Frag} {mg : Str → Option Value} {base : Heap}
theorem scKeptInit : FnScope ["self", "pieces", "item", "part", "_", "often"] ["self", "pieces"] (defScope sKeptInit) := fnScope_by (by decide +kernel)
def spInit (K : PySem.W.Frag) : Sp := fun vs H Q _ => ∃ (x dx a : Addr) (n : Nat) (ts : List Addr) (its : List Pc), vs = [.ref x, .ref a] ∧ H x = some (.ins (KC K) dx []) ∧ H a = some (.lst (ts.map V.ref)) ∧ Tups (Part K n H) H ts its ∧ its.length * (1 + 10 * n) ≤ 10 * (n + 1) ∧ its.length ≤ 4 ∧ n ≤ 1 ∧ (whole its).length ≤ 10 ^ 60 ∧
  ∀ (p c : Addr) (sz : Nat) (H' : Hp), But x H H' → H p = none → H c = none → sz ≤ 10 * (n + 1) → Kfields K H' x dx p c sz (whole its).length → H' p = some (.lst (ts.map V.ref)) → H' c = some (.dK []) → Q .non H'
theorem c_init (C : Ctx K mg) : Mak P w K mg base 4 "Kept" (KC K) (spInit K) [] := by
  refine (fKeptInit C).mak (mkKept C) (gKept C) scKeptInit (fun _ _ _ _ _ _ us hl => match us, hl with | [_, _], _ => rfl) (fun vs H Q E h => ?_) (fun cdv A outer s H vs Q E hr h => ?_)
  · obtain ⟨x, dx, a, n, ts, its, rfl, _⟩ := h
    rfl
  obtain ⟨x, dx, a, n, ts, its, rfl, hx, ha, hT, hn, h4, hn1, hlen, q⟩ := h
  have nd := scKeptInit.nd
  obtain ⟨tk1, hm1⟩ := i_MOST_TUPLES C
  obtain ⟨tk2, hm2⟩ := i_MOST_LENGTH C
  refine ⟨_, pss_cons (ps_if (PW.pt (pw_or (pt_not (pt_val (pe_callB (callIsi (K := K) rfl) (by rfl) (b_isinstance C) boot_isinstance (pa_cons (pv 1) (pa_cons (pe_bltn (v := .ty "list") (by rfl) (b_list C) PyProof.Rows.boot_list rfl) pa_nil)))))
      (pw_or1 (pt_cmpR (op_neD hr.units) (pe_lc (own := [("item", 2)]) (g := gName 2) (by rfl) nd (pi_list (pv 1))
        (blkOk_by (own := [("item", 2)]) (N := ["self", "pieces", "item", "part", "_", "often"]) (sc := defScope sKeptInit) (by decide +kernel))
        (fun _ _ _ _ _ => pg_name (i := 2) nd rfl (Or.inl rfl)) (fun _ _ _ _ _ => pts_one (pt_not (pt_val (pe_c (c_is_piece C) hr (by decide) (by rfl) (pa_cons (pv 2) pa_nil)))))
        (fun _ _ _ _ _ => pv 2)) (pe_lst pa_nil) (nomark _))))) (pss_one ps_never) pss_nil)
    (pss_cons (ps_fld (pv 0) (pe_callTy (callListOf (K := K) rfl) (by rfl) (b_list C) PyProof.Rows.boot_list (pa_cons (pv 1) pa_nil)) rfl)
    (pss_cons (ps_fld (pv 0) (pe_callB (crSum (K := K) rfl rfl) (by rfl) (b_sum C) boot_sum (pa_cons (pe_lc (own := [("part", 3), ("_", 4)]) (g := g2 K 3 4) (by rfl) nd (pi_list (pv 1))
        (blkOk_by (own := [("part", 3), ("_", 4)]) (N := ["self", "pieces", "item", "part", "_", "often"]) (sc := defScope sKeptInit) (by decide +kernel))
        (fun _ _ _ _ _ => pg_tup (by rfl) (pgs_cons (pg_name (i := 3) nd rfl (Or.inl rfl)) (pgs_cons (pg_name (i := 4) nd rfl (Or.inl rfl)) pgs_nil))) (fun _ _ _ _ _ => pts_nil)
        (fun _ _ _ _ _ => pe_op op_add pe_int (pe_ifExp (pt_val (pe_callB (callIsi (K := K) rfl) (by rfl) (b_isinstance C) boot_isinstance (pa_cons (pv 3) (pa_cons (pe_glob (v := .ref (KC K)) (by rfl) (gKept C) rfl) pa_nil))))
          (pe_mt0 (c_tuples_in (P := P) (w := w) (base := base) C) hr (by decide) (pv 3)) pe_int))) pa_nil)) rfl)
    (pss_cons (ps_if (pt_cmpR op_gt (pe_fld (pv 0) rfl) (pe_glob (v := .int 60) (by rfl) hm1 ⟨tk1, rfl⟩) (nomark _)) (pss_one ps_never) pss_nil)
    (pss_cons (ps_fld (pv 0) (pe_callB (crSum (K := K) rfl rfl) (by rfl) (b_sum C) boot_sum (pa_cons (pe_lc (own := [("part", 3), ("often", 5)]) (g := g2 K 3 5) (by rfl) nd (pi_list (pv 1))
        (blkOk_by (own := [("part", 3), ("often", 5)]) (N := ["self", "pieces", "item", "part", "_", "often"]) (sc := defScope sKeptInit) (by decide +kernel))
        (fun _ _ _ _ _ => pg_tup (by rfl) (pgs_cons (pg_name (i := 3) nd rfl (Or.inl rfl)) (pgs_cons (pg_name (i := 5) nd rfl (Or.inl rfl)) pgs_nil))) (fun _ _ _ _ _ => pts_nil)
        (fun _ _ _ _ _ => pe_op op_mulW (pe_c (c_length_of (P := P) (w := w) (base := base) C) hr (by decide) (by rfl) (pa_cons (pv 3) pa_nil)) (pv 5))) pa_nil)) rfl)
    (pss_cons (ps_if (pt_cmpR op_gt (pe_fld (pv 0) rfl) (pe_glob (v := .int (10 ^ 60)) (by rfl) hm2 ⟨tk2, rfl⟩) (nomark _)) (pss_one ps_never) pss_nil)
    (pss_one (ps_fld (pv 0) pe_dnewK rfl))))))), ?_⟩
  refine ⟨.ref a, rfl, .ref a, .ty "list", .type "list", .type "list", true, rfl, .ty _, .base (.lst ha), kit_ty (by decide +kernel), true, rfl, iteF ?_⟩
  refine ⟨.ref a, rfl, a, rfl, ⟨_, sq ha⟩, fun D hD => it_go (walk_list (K := K) (a := a) (xs := ts.map V.ref)) (fun i H1 => Same H H1 ∧ H1 D = some (.lst [])) ⟨sm_new hD _, upd_same⟩ (fun i H1 _ p => sq (p.1 _ _ ha)) (fun i z H1 H2 hi p y => ?_) (fun H1 p => ?_)⟩
  · obtain ⟨rfl, hz⟩ := y
    obtain ⟨b, ⟨v, m, u⟩, rfl, hq, hb, hp, hm⟩ := hT.get hz
    exact ⟨rfl, .ref b, rfl, b, v, m, n, u, rfl, p.1 _ _ hb, hp.keep (.of p.1), true, rfl, p⟩
  obtain ⟨p1, p2⟩ := p
  refine ⟨Nat.zero_le _, fun e he => ?_⟩
  have s1 : Same H (upd H1 e (.lst [])) := p1.trans (sm_new he _)
  refine ne_texts (xs := []) (ys := []) (sq (sm_new he _ _ _ p2)) (sq upd_same) sml_nil sml_nil ⟨_, rfl, iteF ?_⟩
  generalize hH2 : upd H1 e (.lst []) = H2 at s1
  have nsx : ¬ Solid (.ins (KC K) dx []) := by
    show ¬ ([] : List (Str × V)).length = 4
    decide
  -- self._pieces
  refine ⟨.ref a, rfl, a, _, rfl, .inl (sq (s1 _ _ ha)), fun p hp => ⟨.ref x, rfl, x, _, dx, _, rfl, sm_new hp _ _ _ (s1 _ _ hx), clKept C, na_pieces C, by decide, ?_⟩⟩
  have hp0 : H p = none := s1.free hp
  have npx : p ≠ x := (ne_of_none (s1 _ _ hx) hp).symm
  have nax : a ≠ x := ne_of ha hx (by intro z; cases z)
  have b3 : But x H (upd (upd H2 p (.lst (ts.map V.ref))) x (.ins (KC K) dx (putF "_pieces" (.ref p) []))) := (But.of (s1.trans (sm_new hp _))).upd _
  have x3 : (upd (upd H2 p (.lst (ts.map V.ref))) x (.ins (KC K) dx (putF "_pieces" (.ref p) []))) x = some (.ins (KC K) dx [("_pieces", .ref p)]) := upd_same
  have p3 : (upd (upd H2 p (.lst (ts.map V.ref))) x (.ins (KC K) dx (putF "_pieces" (.ref p) []))) p = some (.lst (ts.map V.ref)) := by
    rw [upd_ne npx]
    exact upd_same
  generalize upd (upd H2 p (.lst (ts.map V.ref))) x (.ins (KC K) dx (putF "_pieces" (.ref p) [])) = H3 at b3 x3 p3
  -- self._size
  refine ⟨.ref a, rfl, a, rfl, ⟨_, sq (b3 _ _ ha nax)⟩, fun D2 hD2 => it_go (walk_list (K := K) (a := a) (xs := ts.map V.ref)) (fun i H4 => Same H3 H4 ∧ ∃ acc : List Nat, acc.length = i ∧ (∀ m ∈ acc, m ≤ 1 + 10 * n) ∧ H4 D2 = some (.lst (nV acc))) ⟨sm_new hD2 _, [], rfl, (fun m hm => nomatch hm), upd_same⟩ (fun i H1 _ p => sq (p.1 _ _ (b3 _ _ ha nax))) (fun i z H4 H5 hi pp y => ?_) (fun H4 pp => ?_)⟩
  · obtain ⟨rfl, hz⟩ := y
    obtain ⟨q1, acc, q2, q3, q4⟩ := pp
    obtain ⟨b, ⟨v, m, u⟩, rfl, hq, hb, hpt, hm⟩ := (hT.imp ((Keep.but b3 hx nsx).trans (.of q1)) fun v t h => h.keep ((Keep.but b3 hx nsx).trans (.of q1))).get hz
    obtain ⟨ty, uu, g1, g2, g3⟩ := isi_part C hpt
    have fin : ∀ k : Nat, k ≤ 10 * n → ∃ acc', H5 D2 = some (.lst acc') ∧ acc'.length < sizeLine ∧ Same H3 (upd H5 D2 (.lst (acc' ++ [V.int (1 + ((k : Nat) : Int))]))) ∧ ∃ acc : List Nat, acc.length = i + 1 ∧ (∀ m ∈ acc, m ≤ 1 + 10 * n) ∧ (upd H5 D2 (.lst (acc' ++ [V.int (1 + ((k : Nat) : Int))]))) D2 = some (.lst (nV acc)) := fun k hk => by
      refine ⟨_, q4, ?_, q1.mut hD2 _, acc ++ [1 + k], by rw [List.length_append, q2]; rfl, fun m hm => ?_, ?_⟩
      · rw [List.length_map, q2]
        rw [List.length_map, hT.1] at hi
        exact small1000 (by omega)
      · rcases List.mem_append.mp hm with z | z
        · exact q3 m z
        · rw [List.mem_singleton.mp z]
          omega
      · rw [upd_same, nV_snoc]
        refine congrArg (fun z => some (HO.lst (nV acc ++ [V.int z]))) ?_
        omega
    refine ⟨b, _, rfl, st hb, rfl, _, _, rfl, _, [], rfl, rfl, rfl, v, rfl, v, .ref (KC K), ty, uu, _, rfl, g1, g2, g3, _, rfl, ?_⟩
    rcases (show n = 0 ∨ n = 1 by omega) with rfl | rfl
    · exact ⟨1, 0, rfl, rfl, fin 0 (by omega)⟩
    · obtain ⟨y, dy, py, cy, szy, ty', ity, rfl, hy, hpy, hty, hsz, _⟩ := hpt
      exact ⟨.ref y, rfl, y, dy, _, rfl, hy, rfl, y, dy, _, _, _, _, rfl, hy, 1, _, rfl, rfl, fin szy hsz⟩
  obtain ⟨q1, acc, q2, q3, q4⟩ := pp
  have hsum : acc.sum ≤ 10 * (n + 1) := by
    refine Nat.le_trans (sum_le q3) ?_
    rw [q2, List.length_map, hT.1]
    exact hn
  refine ⟨D2, acc.map fun n => ((n : Nat) : Int), rfl, sq (by rw [q4, nV, List.map_map]; rfl), ?_⟩
  rw [nV_sum]
  refine ⟨.ref x, rfl, x, _, dx, _, rfl, q1 _ _ x3, clKept C, na_size C, by show 1 < 1000; decide, ?_⟩
  have b4 : But x H (upd H4 x (.ins (KC K) dx (putF "_size" (V.int ((acc.sum : Nat) : Int)) [("_pieces", .ref p)]))) := (b3.trans (.of q1)).upd _
  have x4 : (upd H4 x (.ins (KC K) dx (putF "_size" (V.int ((acc.sum : Nat) : Int)) [("_pieces", .ref p)]))) x = some (.ins (KC K) dx [("_pieces", .ref p), ("_size", nat acc.sum)]) := upd_same
  have p4 : (upd H4 x (.ins (KC K) dx (putF "_size" (V.int ((acc.sum : Nat) : Int)) [("_pieces", .ref p)]))) p = some (.lst (ts.map V.ref)) := by
    rw [upd_ne npx]
    exact q1 _ _ p3
  generalize upd H4 x (.ins (KC K) dx (putF "_size" (V.int ((acc.sum : Nat) : Int)) [("_pieces", .ref p)])) = H5 at b4 x4 p4
  refine ⟨.ref x, rfl, x, _, dx, _, _, rfl, x4, clKept C, na_size C, rfl, _, _, rfl, rfl, _, rfl, ?_⟩
  rw [decide_eq_false (show ¬ (60 : Int) < ((acc.sum : Nat) : Int) by omega)]
  refine iteF ?_
  -- self._length
  refine ⟨.ref a, rfl, a, rfl, ⟨_, sq (b4 _ _ ha nax)⟩, fun D3 hD3 => lc_vals (walk_list (K := K) (a := a) (xs := ts.map V.ref)) (xs := ((its.map fun q => q.2.2.length * q.2.1).map fun n => ((n : Nat) : Int)).map V.int) (by simp [hT.1]) (by rw [List.length_map, hT.1]; omega) hD3 (fun H6 s6 => sq (s6 _ _ (b4 _ _ ha nax))) (fun i v0 z H6 H7 hv hi s6 y => ?_) (fun H6 s6 h6 => ?_)⟩
  · obtain ⟨rfl, hz⟩ := y
    obtain ⟨b, ⟨v, m, u⟩, rfl, hq, hb, hpt, hm⟩ := (hT.imp ((Keep.but b4 hx nsx).trans (.of s6)) fun v t h => h.keep ((Keep.but b4 hx nsx).trans (.of s6))).get hz
    rw [List.getElem?_map, List.getElem?_map, List.getElem?_map, hq] at hv
    obtain rfl : V.int ((u.length * m : Nat) : Int) = v0 := Option.some.inj hv
    have hul : u.length ≤ 10 ^ 60 := by
      cases n with
      | zero =>
        obtain ⟨_, h, _⟩ := hpt
        exact Nat.le_trans h (by decide)
      | succ n =>
        obtain ⟨_, _, _, _, _, _, _, _, _, _, _, _, _, h, _⟩ := hpt
        exact h
    refine ⟨Same.refl _, fun R E hR => ⟨b, _, rfl, st hb, rfl, _, _, rfl, _, [], rfl, rfl, rfl, v, rfl, v, n, u, rfl, hpt, nat m, rfl, _, _, rfl, rfl, wide_mul (a := 200) (b := 100) ?_ hm (by decide) (by decide) (by decide), ?_⟩⟩
    · have : (10 : Nat) ^ 60 < 2 ^ 200 := by decide
      omega
    · have := hR _ (Same.refl _)
      rw [Int.natCast_mul] at this
      exact this
  refine ⟨D3, _, rfl, sq h6, ?_⟩
  rw [nV_sum, ← whole_len]
  refine ⟨.ref x, rfl, x, _, dx, _, rfl, s6 _ _ x4, clKept C, na_length C, by show 2 < 1000; decide, ?_⟩
  have b7 : But x H (upd H6 x (.ins (KC K) dx (putF "_length" (V.int (((whole its).length : Nat) : Int)) [("_pieces", .ref p), ("_size", nat acc.sum)]))) := (b4.trans (.of s6)).upd _
  have x7 : (upd H6 x (.ins (KC K) dx (putF "_length" (V.int (((whole its).length : Nat) : Int)) [("_pieces", .ref p), ("_size", nat acc.sum)]))) x = some (.ins (KC K) dx [("_pieces", .ref p), ("_size", nat acc.sum), ("_length", nat (whole its).length)]) := upd_same
  have p7 : (upd H6 x (.ins (KC K) dx (putF "_length" (V.int (((whole its).length : Nat) : Int)) [("_pieces", .ref p), ("_size", nat acc.sum)]))) p = some (.lst (ts.map V.ref)) := by
    rw [upd_ne npx]
    exact s6 _ _ p4
  generalize upd H6 x (.ins (KC K) dx (putF "_length" (V.int (((whole its).length : Nat) : Int)) [("_pieces", .ref p), ("_size", nat acc.sum)])) = H7 at b7 x7 p7
  refine ⟨.ref x, rfl, x, _, dx, _, _, rfl, x7, clKept C, na_length C, rfl, _, _, rfl, rfl, _, rfl, ?_⟩
  rw [decide_eq_false (show ¬ (10 ^ 60 : Int) < (((whole its).length : Nat) : Int) by
    have : (((10 : Nat) ^ 60 : Nat) : Int) = (10 : Int) ^ 60 := by norm_cast
    omega)]
  refine iteF ?_
  -- self._counted
  intro c hc
  have nxc : x ≠ c := ne_of_none x7 hc
  refine ⟨.ref x, rfl, x, _, dx, _, rfl, sm_new hc _ _ _ x7, clKept C, na_counted C, by show 3 < 1000; decide, ?_⟩
  refine q p c acc.sum _ ((b7.trans (.of (sm_new hc _))).upd _) hp0 ?_ hsum upd_same ?_ ?_
  · cases hcc : H c with
    | none => rfl
    | some o =>
      have := b7 _ _ hcc nxc.symm
      rw [hc] at this
      cases this
  · rw [upd_ne npx]
    exact sm_new hc _ _ _ p7
  · rw [upd_ne nxc.symm]
    exact upd_same
end
end Sk
end
section
set_option Elab.async false
set_option linter.all false
set_option maxRecDepth 100000
set_option maxHeartbeats 4000000
namespace Sk
open PySem PySem.Spec PyProof.Rows L2 SX C8
theorem conv_upto {g g' : Ser} : ∀ (w : Tx) (f : Ser), (∀ v : Tx, v.length ≤ w.length → g v = g' v) → conv f g w = conv f g' w
  | [], f, h => by rw [conv, conv, h [] (Nat.le_refl _)]
  | a :: w, f, h => by rw [conv, conv, h (a :: w) (Nat.le_refl _), conv_upto w _ fun v hv => h v (by simp; omega)]
theorem cn_small {t : Tx} (h : t.length ≤ 10 ^ 60) : Sm (cn t) 601 := fun w hw => by
  have h1 := cnt_le t w
  have h2 : (t.length + 1) ^ w.length ≤ (2 ^ 200) ^ w.length := Nat.pow_le_pow_left (by
    have : (10 : Nat) ^ 60 + 1 ≤ 2 ^ 200 := by decide
    omega) _
  have h3 : ((2 : Nat) ^ 200) ^ w.length ≤ (2 ^ 200) ^ 3 := Nat.pow_le_pow_right (Nat.pow_pos (by decide)) hw
  have h4 : ((2 : Nat) ^ 200) ^ 3 < 2 ^ 601 := by decide
  exact Nat.lt_of_le_of_lt (Nat.le_trans h1 (Nat.le_trans h2 h3)) h4
theorem whole_snoc {its : List Pc} {i : Nat} {q : Pc} (h : its[i]? = some q) : whole (its.take (i + 1)) = whole (its.take i) ++ rep q.2.2 q.2.1 := by
  rw [List.take_add_one, h, whole, List.map_append, List.flatten_append]
  unfold whole
  simp
theorem whole_take (its : List Pc) (i : Nat) : (whole (its.take i)).length ≤ (whole its).length := by
  have : whole its = whole (its.take i) ++ whole (its.drop i) := by
    conv => lhs; rw [← List.take_append_drop i its]
    unfold whole
    rw [List.map_append, List.flatten_append]
  rw [this, List.length_append]
  omega
theorem Part.len {K : PySem.W.Frag} {n : Nat} {H : Hp} {v : V} {t : Tx} (h : Part K n H v t) : t.length ≤ 10 ^ 60 := by
  cases n with
  | zero =>
    obtain ⟨_, h, _⟩ := h
    exact Nat.le_trans h (by decide)
  | succ n =>
    obtain ⟨_, _, _, _, _, _, _, _, _, _, _, _, _, h, _⟩ := h
    exact h
theorem put_less {ws : List Tx} {f : Ser} (h : [] ∈ ws) : putK (dkw ws f) (kw []) (.int 0) = dkw ws (less f) := by
  unfold dkw
  rw [put_dk kw_inj, show ins ws [] = ws from if_pos h]
  refine dk_congr fun w hw => ?_
  cases w with
  | nil => rfl
  | cons c w => rfl
section
variable {P : Program} {w : World} {K : PySem.W.Frag} {mg : Str → Option Value} {base : Heap}
abbrev nAll : List Str := ["words", "depth", "part", "found", "item", "often", "less", "power", "many", "at", "chosen_ways", "word"]
theorem scAllCounts : FnScope nAll ["words", "depth", "part"] (defScope sAllCounts) := fnScope_by (by decide +kernel)
def spAll (K : PySem.W.Frag) (n : Nat) : Sp := fun vs H Q _ => ∃ (a : Addr) (ws : List Tx) (d : Nat) (v : V) (t : Tx), vs = [.ref a, nat d, v] ∧ H a = some (.lst (ws.map tV)) ∧ Wds ws ∧ d ≤ 3 ∧ (∀ w ∈ ws, w.length ≤ d) ∧ Part K n H v t ∧ RD ws (cn t) H Q
theorem c_all_counts (C : Ctx K mg) : ∀ n, Cal P w K mg base (2 + n) "all_counts" (spAll K n) []
  | 0 => by
    refine (fAllCounts C).cal (k := 1) scAllCounts (fun _ _ _ _ _ _ us hl => match us, hl with | [_, _, _], _ => rfl) (fun vs H Q E h => ?_) (fun cdv A outer s H vs Q E hr h => ?_)
    · obtain ⟨a, ws, d, v, t, rfl, _⟩ := h
      rfl
    obtain ⟨a, ws, d, v, t, rfl, ha, W, hd, hw, hp, q⟩ := h
    refine ⟨_, pss_cons (ps_if (pt_not (pt_val (pe_callB (callIsi (K := K) rfl) (by rfl) (b_isinstance C) boot_isinstance (pa_cons (pv 2) (pa_cons (pe_glob (v := .ref (KC K)) (by rfl) (gKept C) rfl) pa_nil)))))
        (pss_one (ps_ret (pe_c (c_words_counted C) hr (by decide) (by rfl) (pa_cons (pv 0) (pa_cons (pv 2) pa_nil))))) pss_nil)
      (pss_cons ps_never (pss_cons ps_never (pss_one ps_never))), ?_⟩
    obtain ⟨ty, u, g1, g2, g3⟩ := isi_part C hp
    obtain ⟨rfl, h1, h2⟩ := hp
    refine ⟨tV t, rfl, tV t, .ref (KC K), ty, u, _, rfl, g1, g2, g3, _, rfl, iteT ?_⟩
    exact ⟨.ref a, rfl, tV t, rfl, a, ws, t, rfl, ha, W, q⟩
  | n + 1 => by
    have ih := c_all_counts C n
    refine (fAllCounts C).cal (k := 2 + n) scAllCounts (fun _ _ _ _ _ _ us hl => match us, hl with | [_, _, _], _ => rfl) (fun vs H Q E h => ?_) (fun cdv A outer s H vs Q E hr h => ?_)
    · obtain ⟨a, ws, d, v, t, rfl, _⟩ := h
      rfl
    obtain ⟨a, ws, d, v, t, rfl, ha, W, hd, hw, hp, q⟩ := h
    have hu := hu_of hr
    have nd := scAllCounts.nd
    refine ⟨_, pss_cons (ps_if (pt_not (pt_val (pe_callB (callIsi (K := K) rfl) (by rfl) (b_isinstance C) boot_isinstance (pa_cons (pv 2) (pa_cons (pe_glob (v := .ref (KC K)) (by rfl) (gKept C) rfl) pa_nil)))))
        (pss_one ps_never) pss_nil)
      (pss_cons (ps_set (i := 3) nd rfl (Or.inl rfl) (pe_c (c_words_counted C) hr (by omega) (by rfl) (pa_cons (pv 0) (pa_cons pe_str pa_nil))))
      (pss_cons (ps_for PassesOwn.never rfl (pi_list (pe_mt0 (c_pieces (P := P) (w := w) (base := base) C) hr (by omega) (pv 2))) (pg_tup (by rfl) (pgs_cons (pg_name (i := 4) nd rfl (Or.inl rfl)) (pgs_cons (pg_name (i := 5) nd rfl (Or.inl rfl)) pgs_nil)))
        (pss_cons (ps_set (i := 6) nd rfl (Or.inl rfl) (pe_c ih hr (by omega) (by rfl) (pa_cons (pv 0) (pa_cons (pv 1) (pa_cons (pv 4) pa_nil)))))
        (pss_cons (ps_dput hu (pv 6) pe_str pe_int rfl)
        (pss_cons (ps_asg (pe_tup (pa_cons (pe_c (c_words_counted C) hr (by omega) (by rfl) (pa_cons (pv 0) (pa_cons pe_str pa_nil))) (pa_cons (pe_dc (own := [("word", 11)]) (g := gName 11) (by rfl) nd (pi_list (pv 0))
            (blkOk_by (own := [("word", 11)]) (N := nAll) (sc := defScope sAllCounts) (by decide +kernel))
            (fun _ _ _ _ _ => pg_name (i := 11) nd rfl (Or.inl rfl)) (fun _ _ _ _ _ => pts_nil) (fun _ _ _ _ _ => pv 11) (fun _ _ _ _ _ => pe_int)) pa_nil)))
            (pg_tup (by rfl) (pgs_cons (pg_name (i := 7) nd rfl (Or.inr rfl)) (pgs_cons (pg_name (i := 8) nd rfl (Or.inr rfl)) pgs_nil))))
        (pss_cons (ps_for PassesOwn.never rfl (pi_range1 rfl (b_range C) (pa_cons (pe_op op_add (pv 1) pe_int) pa_nil)) (pg_name (i := 9) nd rfl (Or.inl rfl))
          (pss_cons (ps_set (i := 10) nd rfl (Or.inr rfl) (pe_c (c_binomial C) hr (by omega) (by rfl) (pa_cons (pv 5) (pa_cons (pv 9) pa_nil))))
          (pss_cons (ps_set (i := 8) nd rfl (Or.inr rfl) (pe_dc (own := [("word", 11)]) (g := gName 11) (by rfl) nd (pi_list (pv 0))
            (blkOk_by (own := [("word", 11)]) (N := nAll) (sc := defScope sAllCounts) (by decide +kernel))
            (fun _ _ _ _ _ => pg_name (i := 11) nd rfl (Or.inl rfl)) (fun _ _ _ _ _ => pts_nil) (fun _ _ _ _ _ => pv 11)
            (fun _ _ _ _ _ => pe_op op_add (pe_dget hu (pv 8) (pv 11) (fun _ _ => rfl)) (pe_op op_mulW (pv 10) (pe_dget hu (pv 7) (pv 11) (fun _ _ => rfl))))))
          (pss_one (ps_set (i := 7) nd rfl (Or.inr rfl) (pe_c (c_joined_counts C) hr (by omega) (by rfl) (pa_cons (pv 0) (pa_cons (pv 7) (pa_cons (pv 6) pa_nil)))))))))
        (pss_one (ps_set (i := 3) nd rfl (Or.inl rfl) (pe_c (c_joined_counts C) hr (by omega) (by rfl) (pa_cons (pv 0) (pa_cons (pv 3) (pa_cons (pv 8) pa_nil)))))))))))
      (pss_one (ps_ret (pv 3))))), ?_⟩
    obtain ⟨ty, u, g1, g2, g3⟩ := isi_part C hp
    have hlen := hp.len
    obtain ⟨x, dx, p, c, sz, ts, its, rfl, hx, hpl, hT, hsz, rfl, hln, h4⟩ := hp
    refine ⟨.ref x, rfl, .ref x, .ref (KC K), ty, u, _, rfl, g1, g2, g3, _, rfl, iteF ?_⟩
    refine ⟨.ref a, rfl, a, ws, [], rfl, ha, W, fun F0 H1 nF0 s1 hF0 => ?_⟩
    refine ⟨.ref x, rfl, x, dx, _, rfl, s1 _ _ hx, rfl, x, dx, p, _, _, _, _, rfl, s1 _ _ hx, s1 _ _ hpl, fun pl H2 npl s2 hpl2 => ?_⟩
    have s12 := s1.trans s2
    refine ⟨pl, rfl, ⟨_, sq hpl2⟩, for_go (walk_list (K := K) (a := pl) (xs := ts.map V.ref)) (fun i σ H' => ∃ (F : Addr) (v4 v5 v6 v7 v8 v9 v10 : Option V), σ = [some (.ref a), some (nat d), some (.ref x), some (.ref F), v4, v5, v6, v7, v8, v9, v10, none] ∧ Same H2 H' ∧ H F = none ∧ H' F = some (.dK (dkw ws (cn (whole (its.take i)))))) ⟨F0, none, none, none, none, none, none, none, rfl, Same.refl _, nF0, s2 _ _ hF0⟩ (fun i σ H' _ p => ?_) (fun i z σ H3 H4 hi p y => ?_) (fun σ H' p => ?_)⟩
    · obtain ⟨F, v4, v5, v6, v7, v8, v9, v10, _, sm, _⟩ := p
      exact sq (sm _ _ hpl2)
    · obtain ⟨F, v4, v5, v6, v7, v8, v9, v10, rfl, sm, nF, hF⟩ := p
      obtain ⟨rfl, hz⟩ := y
      have sH := s12.trans sm
      obtain ⟨b, ⟨v, m, t⟩, rfl, hq, hb, hpt, hm⟩ := (hT.imp (.of sH) fun v t h => h.keep (.of sH)).get hz
      have htl := hpt.len
      refine ⟨b, _, rfl, st hb, rfl, _, _, rfl, _, [], rfl, rfl, ?_⟩
      -- less
      refine ⟨.ref a, rfl, nat d, rfl, v, rfl, a, ws, d, v, t, rfl, sH _ _ ha, W, hd, hw, hpt, fun L H5 nL s5 hL => ?_⟩
      refine ⟨.ref L, rfl, L, _, rfl, DPut.k (k := kw []) hL (by unfold dkw; rw [dk_len]; have := W.few; exact small1000 (by omega)), ?_⟩
      rw [put_less W.nil]
      have s6 : Same H4 (upd H5 L (.dK (dkw ws (less (cn t))))) := s5.mut nL _
      have hL6 : (upd H5 L (.dK (dkw ws (less (cn t))))) L = some (.dK (dkw ws (less (cn t)))) := upd_same
      generalize upd H5 L (.dK (dkw ws (less (cn t)))) = H6 at s6 hL6
      -- power, many
      refine ⟨.ref a, rfl, a, ws, [], rfl, s6 _ _ (sH _ _ ha), W, fun P0 H7 nP0 s7 hP0 => ?_⟩
      refine ⟨.ref a, rfl, a, rfl, ⟨_, sq (s7 _ _ (s6 _ _ (sH _ _ ha)))⟩, fun M0 hM0 => dc_vals (κ := kw) kw_inj (walk_list (K := K) (a := a) (xs := ws.map tV)) (ks := ws) (f := fun w => nat 0) W.nd (by simp) (by have := W.few; simp; omega) hM0 (fun H8 s8 => sq (s8 _ _ (s7 _ _ (s6 _ _ (sH _ _ ha))))) (fun j w x H8 H9 hx hj s8 y => ?_) (fun H8 s8 hM8 => ?_)⟩
      · obtain ⟨rfl, hx2⟩ := y
        rw [List.getElem?_map, hx] at hx2
        obtain rfl : tV w = x := Option.some.inj hx2
        exact ⟨Same.refl _, fun R E hR => ⟨rfl, tV w, rfl, hR _ (Same.refl _)⟩⟩
      refine ⟨by show 2 ≤ sizeLine; decide, fun T hT => ?_⟩
      have s9 := sm_new hT (.tup [.ref P0, .ref M0])
      refine ⟨T, _, rfl, st upd_same, rfl, _, _, rfl, _, [], rfl, rfl, ?_⟩
      have hP9 := s9 _ _ (s8 _ _ hP0)
      have hM9 : (upd H8 T (.tup [.ref P0, .ref M0])) M0 = some (.dK (dkw ws (bs (less (cn t)) m 0))) := s9 _ _ hM8
      have s10 : Same H6 (upd H8 T (.tup [.ref P0, .ref M0])) := (s7.trans s8).trans s9
      generalize upd H8 T (.tup [.ref P0, .ref M0]) = H10 at s10 hP9 hM9
      have hP9 : H10 P0 = some (.dK (dkw ws (pw (less (cn t)) 0))) := by rw [hP9, show cn [] = one from funext cnt_nil_text]; rfl
      have aL : Sm (less (cn t)) 601 := (cn_small htl).less
      have e1 : (((d : Nat) : Int) + 1).toNat = d + 1 := by omega
      refine ⟨nat d, rfl, _, _, rfl, rfl, _, rfl, by omega, by omega, ?_⟩
      rw [e1]
      refine for_range (lo := 0) (fun j σ H' => ∃ (Pw M : Addr) (v9 v10 : Option V), σ = [some (.ref a), some (nat d), some (.ref x), some (.ref F), some v, some (nat m), some (.ref L), some (.ref Pw), some (.ref M), v9, v10, none] ∧ Same H6 H' ∧ H' Pw = some (.dK (dkw ws (pw (less (cn t)) j))) ∧ H' M = some (.dK (dkw ws (bs (less (cn t)) m j)))) ⟨P0, M0, v9, v10, rfl, s10, hP9, hM9⟩ (fun j σ H' hj p => ?_) (fun σ H' p => ?_)
      · obtain ⟨Pw, M, v9, v10, rfl, sm', hPw, hM⟩ := p
        have sA := (sH.trans s6).trans sm'
        have ej : (0 : Int) + ((j : Nat) : Int) = ((j : Nat) : Int) := Int.zero_add _
        refine ⟨nat m, rfl, .int (0 + ((j : Nat) : Int)), rfl, m, j, by rw [ej]; rfl, hm, by omega, ?_⟩
        have aP := Sm.pw aL j
        have aB := Sm.bs aL hm j
        refine ⟨.ref a, rfl, a, rfl, ⟨_, sq (sA _ _ ha)⟩, fun D hD => dc_vals (κ := kw) kw_inj (walk_list (K := K) (a := a) (xs := ws.map tV)) (ks := ws) (f := fun w => nat (bs (less (cn t)) m (j + 1) w)) W.nd (by simp) (by have := W.few; simp; omega) hD (fun H8 s8 => sq (s8 _ _ (sA _ _ ha))) (fun k w x H8 H9 hx hk s8 y => ?_) (fun H8 s8 hD8 => ?_)⟩
        · obtain ⟨rfl, hx2⟩ := y
          rw [List.getElem?_map, hx] at hx2
          obtain rfl : tV w = x := Option.some.inj hx2
          have hwm := List.mem_of_getElem? hx
          refine ⟨Same.refl _, fun R E hR => ⟨rfl, tV w, rfl, .ref M, rfl, tV w, rfl, M, _, rfl, .inl ⟨_, kw w, .inl (s8 _ _ hM), rfl, (wval hwm).symm⟩, nat (ch m j), rfl, .ref Pw, rfl, tV w, rfl, Pw, _, rfl, .inl ⟨_, kw w, .inl (s8 _ _ hPw), rfl, (wval hwm).symm⟩, _, _, rfl, rfl, wide_mul (a := 101 * j + 1) (b := 1 + j * (601 + 2)) (ch_lt hm) (aP w (W.low w hwm)) (by omega) (by omega) (by omega), _, _, rfl, rfl, ?_⟩⟩
          have := hR _ (Same.refl _)
          have e5 : (((bs (less (cn t)) m (j + 1) w : Nat)) : Int) = ((bs (less (cn t)) m j w : Nat) : Int) + ((ch m j : Nat) : Int) * ((pw (less (cn t)) j w : Nat) : Int) := by
            rw [show bs (less (cn t)) m (j + 1) w = bs (less (cn t)) m j w + ch m j * pw (less (cn t)) j w from rfl, Int.natCast_add, Int.natCast_mul]
          rw [show nat (bs (less (cn t)) m (j + 1) w) = V.int (((bs (less (cn t)) m (j + 1) w : Nat)) : Int) from rfl, e5] at this
          exact this
        refine ⟨.ref a, rfl, .ref Pw, rfl, .ref L, rfl, a, Pw, L, ws, _, _, 1 + j * (601 + 2), 601, rfl, s8 _ _ (sA _ _ ha), W, s8 _ _ hPw, s8 _ _ (sm' _ _ hL6), aP, aL, ⟨by omega, by omega, by omega⟩, fun P2 H9 nP2 s9 hP2 => ?_⟩
        exact ⟨P2, D, _, _, rfl, (sm'.trans s8).trans s9, hP2, s9 _ _ hD8⟩
      · obtain ⟨Pw, M, v9, v10, rfl, sm', hPw, hM⟩ := p
        have sA := (sH.trans s6).trans sm'
        have aB := Sm.bs aL hm (d + 1)
        have hpre := Nat.le_trans (whole_take its i) hln
        refine ⟨.ref a, rfl, .ref F, rfl, .ref M, rfl, a, F, M, ws, _, _, 601, 3 + (d + 1) * (601 + 104), rfl, sA _ _ ha, W, sm' _ _ (s6 _ _ hF), hM, cn_small hpre, aB, ⟨by omega, by omega, by omega⟩, fun F2 H9 nF2 s9 hF2 => ?_⟩
        refine ⟨F2, _, _, _, _, _, _, _, rfl, ((sm.trans s6).trans sm').trans s9, sA.free nF2, ?_⟩
        rw [hF2]
        refine congrArg (fun z => some (HO.dK z)) (dkw_congr fun w hwm => ?_)
        have hq' : whole (its.take (i + 1)) = whole (its.take i) ++ rep t m := whole_snoc hq
        rw [hq', show cn (whole (its.take i) ++ rep t m) w = conv (cn (whole (its.take i))) (cn (rep t m)) w from cnt_app _ _ w]
        refine conv_upto w _ fun v hv => ?_
        rw [cn_rep]
        exact (pw_bs (f := cn t) (cnt_nil t) m d v (Nat.le_trans hv (hw w hwm))).symm
    · obtain ⟨F, v4, v5, v6, v7, v8, v9, v10, rfl, sm, nF, hF⟩ := p
      refine ⟨.ref F, rfl, q F H' nF (s12.trans sm) ?_⟩
      rw [hF, List.length_map, hT.1, List.take_length]
end
end Sk
end
section
set_option Elab.async false
set_option linter.all false
set_option maxRecDepth 100000
set_option maxHeartbeats 4000000
namespace Sk
open PySem PySem.Spec PyProof.Rows L2 SX C8
theorem mem_wordsN {L : Tx} : ∀ {n : Nat} {w : Tx}, w ∈ wordsN L n ↔ w.length = n ∧ ∀ c ∈ w, c ∈ L
  | 0, w => by
    rw [wordsN, List.mem_singleton]
    constructor
    · rintro rfl
      exact ⟨rfl, fun c h => nomatch h⟩
    · rintro ⟨h, _⟩
      exact List.length_eq_zero_iff.mp h
  | n + 1, w => by
    rw [wordsN, List.mem_flatMap]
    constructor
    · rintro ⟨u, hu, h⟩
      obtain ⟨c, hc, rfl⟩ := List.mem_map.mp h
      obtain ⟨h1, h2⟩ := mem_wordsN.mp hu
      refine ⟨by rw [List.length_append, h1]; rfl, fun d hd => ?_⟩
      rcases List.mem_append.mp hd with z | z
      · exact h2 d z
      · rw [List.mem_singleton.mp z]
        exact hc
    · rintro ⟨h1, h2⟩
      rcases List.eq_nil_or_concat w with rfl | ⟨u, c, rfl⟩
      · cases h1
      · rw [List.concat_eq_append] at *
        rw [List.length_append] at h1
        exact ⟨u, mem_wordsN.mpr ⟨by simpa using h1, fun d hd => h2 d (List.mem_append_left _ hd)⟩, List.mem_map.mpr ⟨c, h2 c (by simp), rfl⟩⟩
theorem mem_wordsTo {L : Tx} : ∀ {n : Nat} {w : Tx}, w ∈ wordsTo L n ↔ w.length < n ∧ ∀ c ∈ w, c ∈ L
  | 0, w => by simp [wordsTo]
  | n + 1, w => by
    rw [wordsTo, List.mem_append, mem_wordsTo, mem_wordsN]
    constructor
    · rintro (⟨h, k⟩ | ⟨h, k⟩)
      · exact ⟨by omega, k⟩
      · exact ⟨by omega, k⟩
    · rintro ⟨h, k⟩
      by_cases e : w.length = n
      · exact .inr ⟨e, k⟩
      · exact .inl ⟨by omega, k⟩
theorem wordsTo_nodup {L : Tx} (h : Alp L) {n : Nat} (hn : n ≤ 3) : (wordsTo L (n + 1)).Nodup := by
  have : n = 0 ∨ n = 1 ∨ n = 2 ∨ n = 3 := by omega
  rcases h with rfl | rfl <;> rcases this with rfl | rfl | rfl | rfl <;> decide +kernel
theorem wordsTo_up {L : Tx} (h : Alp L) {n : Nat} (hn : n ≤ 3) : (wordsTo L (n + 1)).Pairwise fun u v => u.length ≤ v.length := by
  have : n = 0 ∨ n = 1 ∨ n = 2 ∨ n = 3 := by omega
  rcases h with rfl | rfl <;> rcases this with rfl | rfl | rfl | rfl <;> decide +kernel
theorem wds {L : Tx} (h : Alp L) {n : Nat} (hn : n ≤ 3) : Wds (wordsTo L (n + 1)) where
  nd := wordsTo_nodup h hn
  up := wordsTo_up h hn
  take := fun w hw i => by
    obtain ⟨h1, h2⟩ := mem_wordsTo.mp hw
    exact mem_wordsTo.mpr ⟨by rw [List.length_take]; omega, fun c hc => h2 c (List.mem_of_mem_take hc)⟩
  drop := fun w hw i => by
    obtain ⟨h1, h2⟩ := mem_wordsTo.mp hw
    exact mem_wordsTo.mpr ⟨by rw [List.length_drop]; omega, fun c hc => h2 c (List.mem_of_mem_drop hc)⟩
  low := fun w hw => by
    obtain ⟨h1, h2⟩ := mem_wordsTo.mp hw
    omega
  few := by
    have := wordsTo_len h (n := n + 1) (by omega)
    omega
  nil := mem_wordsTo.mpr ⟨by simp, fun c hc => nomatch hc⟩
section
variable {P : Program} {w : World} {K : PySem.W.Frag} {mg : Str → Option Value} {base : Heap}
theorem scKeptCounts : FnScope ["letters", "depth", "kept", "words", "found", "word"] ["letters", "depth", "kept"] (defScope sKeptCounts) := fnScope_by (by decide +kernel)
def spKeptCounts (K : PySem.W.Frag) : Sp := fun vs H Q _ => ∃ (L : Tx) (d n : Nat) (v : V) (t : Tx), vs = [tV L, nat d, v] ∧ Alp L ∧ d ≤ 3 ∧ n ≤ 1 ∧ Part K (n + 1) H v t ∧ RL ((wordsTo L (d + 1)).map fun w => nat (cnt w t)) H Q
theorem c_kept_counts (C : Ctx K mg) : Cal P w K mg base 6 "kept_counts" (spKeptCounts K) [] := by
  refine (fKeptCounts C).cal scKeptCounts (fun _ _ _ _ _ _ us hl => match us, hl with | [_, _, _], _ => rfl) (fun vs H Q E h => ?_) (fun cdv A outer s H vs Q E hr h => ?_)
  · obtain ⟨L, d, n, v, t, rfl, _⟩ := h
    rfl
  obtain ⟨L, d, n, v, t, rfl, hL, hd, hn, hp, q⟩ := h
  have hu := hu_of hr
  have nd := scKeptCounts.nd
  obtain ⟨tk, hm⟩ := i_MOST_DEPTH C
  have W := wds hL hd
  refine ⟨_, pss_cons (ps_expr (pe_c (c_check_letters C) hr (by decide) (by rfl) (pa_cons (pv 0) pa_nil)))
    (pss_cons (ps_expr (pe_c (c_check_number C) hr (by decide) (by rfl) (pa_cons (pv 1) (pa_cons pe_int (pa_cons (pe_glob (v := .int 4) (by rfl) hm ⟨tk, rfl⟩) pa_nil)))))
    (pss_cons (ps_expr (pe_c (c_check_kept C) hr (by decide) (by rfl) (pa_cons (pv 2) pa_nil)))
    (pss_cons (ps_set (i := 3) nd rfl (Or.inl rfl) (pe_c (c_words_of C) hr (by decide) (by rfl) (pa_cons (pv 0) (pa_cons (pv 1) pa_nil))))
    (pss_cons (ps_set (i := 4) nd rfl (Or.inr rfl) (pe_c (c_all_counts C (n + 1)) hr (by omega) (by rfl) (pa_cons (pv 3) (pa_cons (pv 1) (pa_cons (pv 2) pa_nil)))))
    (pss_one (ps_ret (pe_lc (own := [("word", 5)]) (g := gName 5) (by rfl) nd (pi_list (pv 3))
      (blkOk_by (own := [("word", 5)]) (N := ["letters", "depth", "kept", "words", "found", "word"]) (sc := defScope sKeptCounts) (by decide +kernel))
      (fun _ _ _ _ _ => pg_name (i := 5) nd rfl (Or.inl rfl)) (fun _ _ _ _ _ => pts_nil)
      (fun _ _ _ _ _ => pe_dget hu (pv 4) (pv 5) (fun _ _ => rfl))))))))), ?_⟩
  refine ⟨tV L, rfl, L, rfl, hL, fun H1 s1 => ?_⟩
  refine ⟨nat d, rfl, d, 0, .int 4, rfl, by omega, .inr ⟨4, rfl, by omega⟩, v, rfl, v, n, t, rfl, hp.keep (.of s1), ?_⟩
  refine ⟨tV L, rfl, nat d, rfl, L, d, rfl, hL, hd, fun a H2 na s2 ha => ?_⟩
  refine ⟨.ref a, rfl, nat d, rfl, v, rfl, a, _, d, v, t, rfl, ha, W, hd, fun w hw => by have := (mem_wordsTo.mp hw).1; omega, hp.keep (.of (s1.trans s2)), fun F H3 nF s3 hF => ?_⟩
  refine ⟨.ref a, rfl, a, rfl, ⟨_, sq (s3 _ _ ha)⟩, fun D hD => lc_vals (walk_list (K := K) (a := a) (xs := (wordsTo L (d + 1)).map tV)) (xs := (wordsTo L (d + 1)).map fun w => nat (cnt w t)) (by simp) (by have := W.few; simp; omega) hD (fun H4 s4 => sq (s4 _ _ (s3 _ _ ha))) (fun i u x H4 H5 hx hi s4 y => ?_) (fun H4 s4 h4 => q D H4 (((s1.trans s2).trans s3).free hD) (((s1.trans s2).trans s3).trans s4) h4)⟩
  obtain ⟨rfl, hx2⟩ := y
  obtain ⟨w, hw, rfl⟩ := get_map hx2
  rw [List.getElem?_map, hw] at hx
  obtain rfl : nat (cnt w t) = u := Option.some.inj hx
  refine ⟨Same.refl _, fun R E hR => ⟨rfl, .ref F, rfl, tV w, rfl, F, _, rfl, .inl ⟨_, kw w, .inl (s4 _ _ hF), rfl, (wval (List.mem_of_getElem? hw)).symm⟩, hR _ (Same.refl _)⟩⟩
end
end Sk
end
section
set_option autoImplicit false
namespace Sk
/-- a row from s on: the series f at the word's part between -/
def sl (w : Tx) (s : Nat) (f : Ser) (e : Nat) : Nat := if s ≤ e then f ((w.drop s).take (e - s)) else 0
def rowOf (w : Tx) (s : Nat) (f : Ser) : List Nat := (List.range (w.length + 1)).map (sl w s f)
theorem rowOf_len (w : Tx) (s : Nat) (f : Ser) : (rowOf w s f).length = w.length + 1 := by simp [rowOf]
theorem rowOf_get {w : Tx} {s : Nat} {f : Ser} {e : Nat} (h : e ≤ w.length) : (rowOf w s f)[e]? = some (sl w s f e) := by
  rw [rowOf, List.getElem?_map, List.getElem?_range (by omega)]
  rfl
theorem sl_one (w : Tx) (s : Nat) {e : Nat} (he : e ≤ w.length) : sl w s one e = if s = e then 1 else 0 := by
  unfold sl
  by_cases h : s ≤ e
  · rw [if_pos h]
    by_cases h2 : s = e
    · subst h2
      rw [if_pos rfl, Nat.sub_self]
      rfl
    · rw [if_neg h2]
      have : ((w.drop s).take (e - s)).length ≠ 0 := by
        rw [List.length_take, List.length_drop]
        omega
      cases hl : (w.drop s).take (e - s) with
      | nil => rw [hl] at this; exact absurd rfl this
      | cons a r => rfl
  · rw [if_neg h, if_neg (by omega)]
theorem slice_snoc {w : Tx} {s e c : Nat} (hs : s ≤ e) (hc : w[e]? = some c) : (w.drop s).take (e + 1 - s) = (w.drop s).take (e - s) ++ [c] := by
  rw [show e + 1 - s = (e - s) + 1 by omega, List.take_add_one, List.getElem?_drop, show s + (e - s) = e by omega, hc]
  rfl
theorem sl_letter {w : Tx} {s e b c : Nat} (f : Ser) (hc : w[e]? = some c) : sl w s (conv f (cn [b])) (e + 1) = sl w s f (e + 1) + if c = b then sl w s f e else 0 := by
  unfold sl
  by_cases h : s ≤ e
  · rw [if_pos (by omega), if_pos (by omega), if_pos h, slice_snoc h hc, conv_letter]
  · by_cases h2 : s = e + 1
    · subst h2
      rw [if_pos (Nat.le_refl _), if_pos (Nat.le_refl _), if_neg h, Nat.sub_self]
      show conv f (cn [b]) [] = f [] + _
      rw [conv_letter_nil]
      split <;> rfl
    · rw [if_neg (by omega), if_neg (by omega), if_neg h]
      split <;> rfl
theorem sl_letter0 {w : Tx} {s b : Nat} (f : Ser) : sl w s (conv f (cn [b])) 0 = sl w s f 0 := by
  unfold sl
  by_cases h : s ≤ 0
  · rw [if_pos h, if_pos h, Nat.zero_sub]
    exact conv_letter_nil b f
  · rw [if_neg h, if_neg h]
theorem sum_zero (n : Nat) : ∀ f : Nat → Nat, (∀ i, i < n → f i = 0) → ((List.range n).map f).sum = 0 := by
  induction n with
  | zero => intro f _; rfl
  | succ n ih =>
    intro f h
    rw [List.range_succ, List.map_append, List.sum_append, ih f fun i hi => h i (by omega), List.map_singleton, List.sum_singleton, h n (by omega)]
theorem sum_shift (s m : Nat) (f : Nat → Nat) : ((List.range (s + m)).map f).sum = ((List.range s).map f).sum + ((List.range m).map fun i => f (s + i)).sum := by
  induction m with
  | zero => simp
  | succ m ih =>
    rw [show s + (m + 1) = (s + m) + 1 by omega, List.range_succ, List.map_append, List.sum_append, ih, List.range_succ, List.map_append, List.sum_append, List.map_singleton, List.sum_singleton, List.map_singleton, List.sum_singleton]
    omega
theorem conv_proper {F G : Ser} (hG : G [] = 0) (u : Tx) : conv F G u = ((List.range u.length).map fun i => F (u.take i) * G (u.drop i)).sum := by
  rw [conv_sum, List.range_succ, List.map_append, List.sum_append, List.map_singleton, List.sum_singleton, List.drop_length, hG, Nat.mul_zero, Nat.add_zero]
/-- one copy more -/
theorem sl_copy {w : Tx} {s e : Nat} (F g : Ser) (he : e ≤ w.length) : ((List.range e).map fun i => sl w s F i * sl w i g e).sum = sl w s (conv F (less g)) e := by
  by_cases h : s ≤ e
  · obtain ⟨m, rfl⟩ : ∃ m, e = s + m := ⟨e - s, by omega⟩
    rw [sum_shift, sum_zero s _ fun i hi => by unfold sl; rw [if_neg (by omega), Nat.zero_mul], Nat.zero_add]
    have e1 : sl w s (conv F (less g)) (s + m) = conv F (less g) ((w.drop s).take m) := by
      unfold sl
      rw [if_pos (by omega), show s + m - s = m by omega]
    rw [e1, conv_proper rfl]
    have el : ((w.drop s).take m).length = m := by
      rw [List.length_take, List.length_drop]
      omega
    rw [el]
    refine congrArg List.sum (List.map_congr_left fun i hi => ?_)
    have hi := List.mem_range.mp hi
    have e2 : sl w s F (s + i) = F (((w.drop s).take m).take i) := by
      unfold sl
      rw [if_pos (by omega), show s + i - s = i by omega, List.take_take, Nat.min_eq_left (by omega)]
    have e3 : sl w (s + i) g (s + m) = less g (((w.drop s).take m).drop i) := by
      unfold sl
      rw [if_pos (by omega), show s + m - (s + i) = m - i by omega, List.drop_take, List.drop_drop]
      have : ((w.drop (s + i)).take (m - i)).length ≠ 0 := by
        rw [List.length_take, List.length_drop]
        omega
      cases hl : (w.drop (s + i)).take (m - i) with
      | nil => rw [hl] at this; exact absurd rfl this
      | cons a r => rfl
    rw [e2, e3]
  · rw [sum_zero e _ fun i hi => by
      have : sl w s F i = 0 := if_neg (by omega)
      rw [this, Nat.zero_mul]]
    exact (if_neg h).symm
/-- the copies taken together -/
theorem sl_ways (w : Tx) (s e n : Nat) (f N : Ser) : ∀ m, ((List.range m).map fun k => ch n k * sl w s (conv f (pw N k)) e).sum = sl w s (conv f (bs N n m)) e
  | 0 => by
    unfold sl
    split
    · exact (conv_zeroR f _).symm
    · rfl
  | m + 1 => by
    rw [List.range_succ, List.map_append, List.sum_append, sl_ways w s e n f N m, List.map_singleton, List.sum_singleton]
    unfold sl
    split
    · rw [conv_bs]
    · rw [Nat.mul_zero]
theorem sl_congr {w : Tx} {s e : Nat} {f g : Ser} (he : e ≤ w.length) (h : ∀ u : Tx, u.length ≤ w.length → f u = g u) : sl w s f e = sl w s g e := by
  unfold sl
  split
  · refine h _ ?_
    rw [List.length_take, List.length_drop]
    omega
  · rfl
theorem rowOf_congr {w : Tx} {s : Nat} {f g : Ser} (h : ∀ u : Tx, u.length ≤ w.length → f u = g u) : rowOf w s f = rowOf w s g :=
  List.map_congr_left fun e he => sl_congr (by have := List.mem_range.mp he; omega) h
theorem sl_lt {w : Tx} {s e B : Nat} {f : Ser} (h : Sm f B) (hw : w.length ≤ 3) : sl w s f e < 2 ^ B := by
  unfold sl
  split
  · exact h _ (by rw [List.length_take, List.length_drop]; omega)
  · exact Nat.pow_pos (by decide)
end Sk
end
section
set_option Elab.async false
set_option linter.all false
set_option maxRecDepth 100000
set_option maxHeartbeats 4000000
namespace Sk
open PySem PySem.Spec PyProof.Rows L2 SX C8
theorem ixN_nat {n j : Nat} (h : j < n) : ixN n ((j : Nat) : Int) = some j := by
  unfold ixN
  rw [if_pos (by omega), if_pos (by omega)]
  simp
/-- a list of rows -/
def Mx (H : Hp) (rs : List Addr) (rows : Nat → List Nat) (n : Nat) : Prop := rs.length = n ∧ ∀ (s : Nat) (a : Addr), rs[s]? = some a → H a = some (.lst (nV (rows s)))
theorem Mx.same {H H' : Hp} {rs : List Addr} {rows : Nat → List Nat} {n : Nat} (s : Same H H') (h : Mx H rs rows n) : Mx H' rs rows n := ⟨h.1, fun i a e => s _ _ (h.2 i a e)⟩
theorem Mx.snoc {H : Hp} {rs : List Addr} {rows : Nat → List Nat} {n : Nat} {a : Addr} (h : Mx H rs rows n) (e : H a = some (.lst (nV (rows n)))) : Mx H (rs ++ [a]) rows (n + 1) := by
  refine ⟨by rw [List.length_append, h.1]; rfl, fun i b hi => ?_⟩
  by_cases hlt : i < rs.length
  · rw [List.getElem?_append_left hlt] at hi
    exact h.2 i b hi
  · rw [List.getElem?_append_right (by omega)] at hi
    have e2 : i - rs.length = 0 := by
      have := (List.getElem?_eq_some_iff.mp hi).1
      simp at this
      omega
    rw [e2] at hi
    obtain rfl := Option.some.inj hi
    have : i = n := by have := h.1; omega
    rw [this]
    exact e
theorem nV_refs {l : List Nat} {rs : List Addr} (h : 0 < l.length) : HO.lst (nV l) ≠ HO.lst (rs.map V.ref) := fun z => by
  have z2 := HO.lst.inj z
  cases l with
  | nil => cases h
  | cons m r =>
    cases rs with
    | nil => cases z2
    | cons b r' => cases (List.cons.inj z2).1
/-- the list of rows grows -/
theorem Mx.grow {H : Hp} {rs : List Addr} {rows : Nat → List Nat} {n : Nat} {D a : Addr} {o : HO} (h : Mx H rs rows n) (hD : H D = some (.lst (rs.map V.ref))) (ha : H a = some (.lst (nV (rows n)))) (pos : ∀ s, 0 < (rows s).length) : Mx (upd H D o) (rs ++ [a]) rows (n + 1) := by
  refine Mx.snoc ⟨h.1, fun s b e => ?_⟩ ?_
  · rw [upd_ne (ne_of (h.2 s b e) hD (nV_refs (pos s)))]
    exact h.2 s b e
  · rw [upd_ne (ne_of ha hD (nV_refs (pos n)))]
    exact ha
section
variable {P : Program} {w : World} {K : PySem.W.Frag} {mg : Str → Option Value} {base : Heap}
theorem scUnitOf : FnScope ["size", "start", "end"] ["size"] (defScope sUnitOf) := fnScope_by (by decide +kernel)
def spUnitOf : Sp := fun vs H Q _ => ∃ (w : Tx), vs = [.int (((w.length : Nat) : Int) + 1)] ∧ w.length ≤ 3 ∧ ∀ (p : Addr) (rs : List Addr) (H' : Hp), H p = none → Same H H' → H' p = some (.lst (rs.map V.ref)) → Mx H' rs (fun s => rowOf w s one) (w.length + 1) → Q (.ref p) H'
theorem c_unit_of (C : Ctx K mg) : Cal P w K mg base 1 "unit_of" spUnitOf [] := by
  refine (fUnitOf C).cal scUnitOf (fun _ _ _ _ _ _ us hl => match us, hl with | [_], _ => rfl) (fun vs H Q E h => ?_) (fun cdv A outer s H vs Q E hr h => ?_)
  · obtain ⟨w, rfl, _⟩ := h
    rfl
  obtain ⟨w, rfl, hw, q⟩ := h
  have nd := scUnitOf.nd
  refine ⟨_, pss_one (ps_ret (pe_lc (own := [("start", 1)]) (g := gName 1) (by rfl) nd (pi_range1 rfl (b_range C) (pa_cons (pv 0) pa_nil))
      (blkOk_by (own := [("start", 1)]) (N := ["size", "start", "end"]) (sc := defScope sUnitOf) (by decide +kernel))
      (fun _ _ _ _ _ => pg_name (i := 1) nd rfl (Or.inr rfl)) (fun _ _ _ _ _ => pts_nil)
      (fun _ _ _ _ _ => pe_lc (own := [("end", 2)]) (g := gName 2) (by rfl) nd (pi_range1 rfl (b_range C) (pa_cons (pv 0) pa_nil))
        (blkOk_by (own := [("end", 2)]) (N := ["size", "start", "end"]) (sc := { kind := .function, names := [(".0", .local), ("start", .cell), ("range", .globalImplicit), ("size", .cell)], isGenerator := false, isCoroutine := false }) (by decide +kernel))
        (fun _ _ _ _ _ => pg_name (i := 2) nd rfl (Or.inl rfl)) (fun _ _ _ _ _ => pts_nil)
        (fun _ _ _ _ _ => pe_callTy call_int1 (by rfl) (b_int C) PyProof.Rows.boot_int (pa_cons (pe_cmpR op_eq (pv 1) (pv 2) (nomark _)) pa_nil))))), ?_⟩
  have el : (((w.length : Nat) : Int) + 1).toNat = w.length + 1 := by omega
  refine ⟨_, rfl, _, rfl, by omega, by omega, fun D hD => ?_⟩
  rw [el]
  refine it_go (walk_range (lo := 0) (n := w.length + 1)) (fun i H1 => Same H H1 ∧ ∃ rs : List Addr, H1 D = some (.lst (rs.map V.ref)) ∧ Mx H1 rs (fun s => rowOf w s one) i) ⟨sm_new hD _, [], upd_same, rfl, fun i a e => by simp at e⟩ (fun _ _ _ _ => trivial) (fun i x H1 H2 hi p y => ?_) (fun H1 p => ?_)
  · obtain ⟨rfl, rfl⟩ := y
    obtain ⟨p1, rs, p2, p3⟩ := p
    refine ⟨rfl, _, rfl, _, rfl, by omega, by omega, fun D2 hD2 => ?_⟩
    rw [el]
    refine lc_vals (walk_range (lo := 0) (n := w.length + 1)) (xs := nV (rowOf w i one)) (by rw [List.length_map, rowOf_len]) (by omega) hD2 (fun _ _ => trivial) (fun e v x H3 H4 hv he s3 y => ?_) (fun H3 s3 h3 => ?_)
    · obtain ⟨rfl, rfl⟩ := y
      have hv2 := get_nV (rowOf_get (w := w) (s := i) (f := one) (e := e) (by omega))
      rw [hv] at hv2
      obtain rfl := Option.some.inj hv2
      refine ⟨Same.refl _, fun R E hR => ⟨rfl, _, rfl, _, rfl, rfl, .inr ⟨_, rfl, ?_⟩⟩⟩
      have e5 : V.int (if decide (V.int (0 + ((i : Nat) : Int)) = V.int (0 + ((e : Nat) : Int))) = true then 1 else 0) = V.int ((sl w i one e : Nat) : Int) := by
        rw [sl_one w i (by omega)]
        by_cases h : i = e
        · subst h
          rw [if_pos rfl, decide_eq_true rfl]
          rfl
        · rw [if_neg h, decide_eq_false fun z => h (by have := V.int.inj z; omega)]
          rfl
      rw [e5]
      exact hR _ (Same.refl _)
    · exact ⟨_, s3 _ _ p2, by rw [List.length_map, p3.1]; exact small1000 (by omega), (p1.trans s3).mut hD _, rs ++ [D2], by rw [upd_same, List.map_append]; rfl, Mx.grow (p3.same s3) (s3 _ _ p2) h3 fun s => by rw [rowOf_len]; omega⟩
  · obtain ⟨p1, rs, p2, p3⟩ := p
    exact q D rs H1 hD p1 p2 p3
theorem scRowBehindText : FnScope ["word", "text", "row", "found", "letter", "end"] ["word", "text", "row"] (defScope sRowBehindText) := fnScope_by (by decide +kernel)
/-- the row, so far that it is written from behind -/
def half (w : Tx) (s : Nat) (f g : Ser) (m : Nat) : List Nat := (List.range (w.length + 1)).map fun e => if m < e then sl w s g e else sl w s f e
theorem half_len (w : Tx) (s : Nat) (f g : Ser) (m : Nat) : (half w s f g m).length = w.length + 1 := by simp [half]
theorem half_get {w : Tx} {s : Nat} {f g : Ser} {m e : Nat} (h : e ≤ w.length) : (half w s f g m)[e]? = some (if m < e then sl w s g e else sl w s f e) := by
  rw [half, List.getElem?_map, List.getElem?_range (by omega)]
  rfl
theorem half_top (w : Tx) (s : Nat) (f g : Ser) : half w s f g w.length = rowOf w s f := List.map_congr_left fun e he => by
  rw [if_neg]
  have := List.mem_range.mp he
  omega
theorem half_zero {w : Tx} {s : Nat} {f g : Ser} (h : sl w s f 0 = sl w s g 0) : half w s f g 0 = rowOf w s g := List.map_congr_left fun e he => by
  by_cases e0 : 0 < e
  · rw [if_pos e0]
  · have : e = 0 := by omega
    subst this
    rw [if_neg e0, h]
theorem half_set {w : Tx} {s : Nat} {f g : Ser} {m : Nat} (hm : m < w.length) : (half w s f g (m + 1)).set (m + 1) (sl w s g (m + 1)) = half w s f g m := by
  refine List.ext_getElem? fun e => ?_
  by_cases he : e ≤ w.length
  · by_cases h : m + 1 = e
    · subst h
      rw [List.getElem?_set_self (by rw [half_len]; omega), half_get he, if_pos (by omega)]
    · rw [List.getElem?_set_ne h, half_get he, half_get he]
      by_cases h2 : m < e
      · rw [if_pos h2, if_pos (by omega)]
      · rw [if_neg h2, if_neg (by omega)]
  · rw [List.getElem?_eq_none (by rw [List.length_set, half_len]; omega), List.getElem?_eq_none (by rw [half_len]; omega)]
theorem half_same {w : Tx} {s : Nat} {f g : Ser} {m : Nat} (h : sl w s f (m + 1) = sl w s g (m + 1)) : half w s f g (m + 1) = half w s f g m := List.map_congr_left fun e he => by
  by_cases h1 : m + 1 = e
  · subst h1
    rw [if_neg (by omega), if_pos (by omega), h]
  · by_cases h2 : m < e
    · rw [if_pos h2, if_pos (by omega)]
    · rw [if_neg h2, if_neg (by omega)]
theorem nV_set (l : List Nat) (i m : Nat) : (nV l).set i (nat m) = nV (l.set i m) := (List.map_set ..).symm
def spRowText : Sp := fun vs H Q _ => ∃ (w t : Tx) (r : Addr) (s : Nat) (f : Ser), vs = [tV w, tV t, .ref r] ∧ w.length ≤ 3 ∧ H r = some (.lst (nV (rowOf w s f))) ∧ RL (nV (rowOf w s (conv f (cn t)))) H Q
theorem c_row_behind_text (C : Ctx K mg) : Cal P w K mg base 1 "row_behind_text" spRowText [] := by
  refine (fRowBehindText C).cal scRowBehindText (fun _ _ _ _ _ _ us hl => match us, hl with | [_, _, _], _ => rfl) (fun vs H Q E h => ?_) (fun cdv A outer s H vs Q E hr h => ?_)
  · obtain ⟨w, t, r, s, f, rfl, _⟩ := h
    rfl
  obtain ⟨w, t, r, st0, f, rfl, hw, hr0, q⟩ := h
  have nd := scRowBehindText.nd
  refine ⟨_, pss_cons (ps_set (i := 3) nd rfl (Or.inl rfl) (pe_callTy (callListOf (K := K) rfl) (by rfl) (b_list C) PyProof.Rows.boot_list (pa_cons (pv 2) pa_nil)))
    (pss_cons (ps_for PassesOwn.never rfl (pi_str (pv 1)) (pg_name (i := 4) nd rfl (Or.inl rfl))
      (pss_one (ps_for PassesOwn.never rfl (pi_range3 rfl (b_range C) (pa_cons (pe_callB call_len_str (by rfl) (b_len C) boot_len (pa_cons (pv 0) pa_nil)) (pa_cons pe_int (pa_cons (pe_un un_neg pe_int) pa_nil)))) (pg_name (i := 5) nd rfl (Or.inl rfl))
        (pss_one (ps_if (pt_cmpR op_eq (pe_ix ix_str (pv 0) (pe_op op_sub (pv 5) pe_int) (fun _ _ => rfl)) (pv 4) (nomark _))
          (pss_one (ps_asg (pe_op op_add (pe_ix ix_list (pv 3) (pv 5) (fun _ _ => rfl)) (pe_ix ix_list (pv 3) (pe_op op_sub (pv 5) pe_int) (fun _ _ => rfl))) (pg_sub (pv 3) (pv 5) set_list)))
          pss_nil)))))
    (pss_one (ps_ret (pv 3)))), ?_⟩
  refine ⟨.ref r, rfl, r, _, rfl, .inl (sq hr0), fun D hD => ?_⟩
  refine ⟨tV t, rfl, S t, rfl, for_go walk_str (fun i σ H' => ∃ v4 v5 : Option V, σ = [some (tV w), some (tV t), some (.ref r), some (.ref D), v4, v5] ∧ Same H H' ∧ H' D = some (.lst (nV (rowOf w st0 (conv f (cn (t.take i))))))) ⟨none, none, rfl, sm_new hD _, ?_⟩ (fun _ _ _ _ _ => trivial) (fun i x σ H2 H3 hi p y => ?_) (fun σ H' p => ?_)⟩
  · rw [upd_same, List.take_zero, show cn [] = one from funext cnt_nil_text, funext (conv_one f)]
  · obtain ⟨v4, v5, rfl, sm, hDi⟩ := p
    obtain ⟨rfl, b, hb, rfl⟩ := y
    have htb : t[i]? = some b := by
      have : (S t).cps.toList[i]? = some b := by rw [← hb, Array.getElem?_toList]
      exact this
    have etk : cn (t.take (i + 1)) = conv (cn (t.take i)) (cn [b]) := by
      rw [List.take_add_one, htb]
      exact funext (cnt_app _ _)
    have eg : conv f (cn (t.take (i + 1))) = conv (conv f (cn (t.take i))) (cn [b]) := by
      rw [etk]
      exact (funext (conv_assoc _ _ _)).symm
    generalize hF : conv f (cn (t.take i)) = F at hDi eg
    rw [eg]
    refine ⟨tV w, rfl, S w, rfl, smallT (by omega), 1, rfl, _, _, -1, _, rfl, RgC.neg (by rw [S_len]; omega) (by rw [S_len]; omega) (by decide) (by decide), for_go walk_rangeC (fun j σ H' => ∃ v5 : Option V, σ = [some (tV w), some (tV t), some (.ref r), some (.ref D), some (.str ⟨#[b]⟩), v5] ∧ Same H H' ∧ H' D = some (.lst (nV (half w st0 F (conv F (cn [b])) (w.length - j))))) ⟨v5, rfl, sm, by rw [hDi, Nat.sub_zero, half_top]⟩ (fun _ _ _ _ _ => trivial) (fun j x σ H4 H5 hj p y => ?_) (fun σ H' p => ?_)⟩
    · obtain ⟨v5, rfl, sm', hDj⟩ := p
      obtain ⟨rfl, hx⟩ := y
      rw [S_len] at hx hj
      generalize hk : w.length - (j + 1) = k
      have ek : w.length - j = k + 1 := by omega
      rw [ek] at hDj
      have ev : ((w.length : Nat) : Int) + ((j : Nat) : Int) * -1 = ((k + 1 : Nat) : Int) := by omega
      replace hx : x = V.int ((k + 1 : Nat) : Int) := hx.trans (congrArg V.int ev)
      subst hx
      have hkl : k < w.length := by omega
      obtain ⟨c, hc⟩ : ∃ c, w[k]? = some c := ⟨w[k], List.getElem?_eq_getElem hkl⟩
      have hc' : (S w).cps.toList[k]? = some c := hc
      have e1 : ((k + 1 : Nat) : Int) - 1 = ((k : Nat) : Int) := by omega
      refine ⟨tV w, rfl, .int ((k + 1 : Nat) : Int), rfl, _, _, rfl, rfl, S w, _, c, rfl, rfl, smallT (by omega), by rw [e1]; exact atI_nat hc', .str ⟨#[b]⟩, rfl, rfl, _, rfl, ?_⟩
      by_cases ecb : c = b
      · subst ecb
        rw [decide_eq_true rfl]
        refine iteT ?_
        have g1 := get_nV (half_get (w := w) (s := st0) (f := F) (g := conv F (cn [c])) (m := k + 1) (e := k + 1) (by omega))
        have g0 := get_nV (half_get (w := w) (s := st0) (f := F) (g := conv F (cn [c])) (m := k + 1) (e := k) (by omega))
        rw [if_neg (by omega)] at g1 g0
        refine ⟨.ref D, rfl, .int ((k + 1 : Nat) : Int), rfl, D, _, _, _, rfl, rfl, sq hDj, atI_nat g1, .ref D, rfl, .int ((k + 1 : Nat) : Int), rfl, _, _, rfl, rfl, D, _, _, _, rfl, rfl, sq hDj, by rw [e1]; exact atI_nat g0, _, _, rfl, rfl, ?_⟩
        refine ⟨.ref D, rfl, .int ((k + 1 : Nat) : Int), rfl, D, _, _, _, rfl, rfl, hDj, ixN_nat (by rw [List.length_map, half_len]; omega), _, rfl, sm'.mut hD _, ?_⟩
        rw [upd_same]
        have hl := sl_letter (s := st0) (b := c) F hc
        rw [if_pos rfl] at hl
        rw [← half_set hkl, hl, ← nV_set]
        exact congrArg (fun z => some (HO.lst ((nV (half w st0 F (conv F (cn [c])) (k + 1))).set (k + 1) (V.int z)))) (Int.natCast_add _ _).symm
      · rw [decide_eq_false (show ¬ V.str (⟨#[c]⟩ : Str) = V.str ⟨#[b]⟩ from fun z => ecb (by
            have : S [c] = S [b] := V.str.inj z
            have := S_inj this
            injection this))]
        refine iteF ⟨_, rfl, sm', ?_⟩
        have hl := sl_letter (s := st0) (b := b) F hc
        rw [if_neg ecb] at hl
        rw [hDj, half_same hl.symm]
    · obtain ⟨v5, rfl, sm', hDj⟩ := p
      refine ⟨_, v5, rfl, sm', ?_⟩
      rw [hDj, S_len, show w.length - ((((w.length : Nat) : Int) - 0).toNat) = 0 by omega, half_zero (sl_letter0 F).symm]
  · obtain ⟨v4, v5, rfl, sm, hDi⟩ := p
    refine ⟨.ref D, rfl, q D H' hD sm ?_⟩
    have e : (S t).cps.size = t.length := S_len t
    rw [hDi, e, List.take_length]
end
end Sk
end
section
set_option Elab.async false
set_option linter.all false
set_option maxRecDepth 100000
set_option maxHeartbeats 4000000
namespace Sk
open PySem PySem.Spec PyProof.Rows L2 SX C8
theorem piK {X : Cx} {tg e : Expr} {wi wi' : L2.TI} (h : L2.PI X tg e wi) (q : wi = wi') : L2.PI X tg e wi' := q ▸ h
theorem sums (n : Nat) (f : Nat → Nat) : (((List.range n).map fun i => ((f i : Nat) : Int)).sum) = ((((List.range n).map f).sum : Nat) : Int) := by
  rw [← nV_sum, List.map_map]
  rfl
section
variable {P : Program} {w : World} {K : PySem.W.Frag} {mg : Str → Option Value} {base : Heap}
theorem scRowsByCopies : FnScope ["row", "counted", "found", "at", "last", "end", "start"] ["row", "counted"] (defScope sRowsByCopies) := fnScope_by (by decide +kernel)
def spCopies : Sp := fun vs H Q _ => ∃ (w : Tx) (s : Nat) (f g : Ser) (B : Nat) (r c : Addr) (rs : List Addr), vs = [.ref r, .ref c] ∧ w.length ≤ 3 ∧ H r = some (.lst (nV (rowOf w s f))) ∧ H c = some (.lst (rs.map V.ref)) ∧ Mx H rs (fun i => rowOf w i g) (w.length + 1) ∧ Sm f B ∧ Sm g 601 ∧ B ≤ 900000 ∧
  ∀ (p : Addr) (qs : List Addr) (H' : Hp), H p = none → Same H H' → H' p = some (.lst (qs.map V.ref)) → Mx H' qs (fun k => rowOf w s (conv f (pw (less g) k))) (w.length + 1) → Q (.ref p) H'
theorem c_rows_by_copies (C : Ctx K mg) : Cal P w K mg base 1 "rows_by_copies" spCopies [] := by
  refine (fRowsByCopies C).cal scRowsByCopies (fun _ _ _ _ _ _ us hl => match us, hl with | [_, _], _ => rfl) (fun vs H Q E h => ?_) (fun cdv A outer s H vs Q E hr h => ?_)
  · obtain ⟨w, s, f, g, B, r, c, rs, rfl, _⟩ := h
    rfl
  obtain ⟨w, st0, f, g, B, r, c, rs, rfl, hw, hr0, hc, hM, aF, aG, hB, q⟩ := h
  have nd := scRowsByCopies.nd
  refine ⟨_, pss_cons (ps_set (i := 2) nd rfl (Or.inl rfl) (pe_lst (pa_cons (pe_callTy (callListOf (K := K) rfl) (by rfl) (b_list C) PyProof.Rows.boot_list (pa_cons (pv 0) pa_nil)) pa_nil)))
    (pss_cons (ps_for PassesOwn.never rfl (pi_range2 rfl (b_range C) (pa_cons pe_int (pa_cons (pe_callB call_len_seq (by rfl) (b_len C) boot_len (pa_cons (pv 0) pa_nil)) pa_nil))) (pg_name (i := 3) nd rfl (Or.inl rfl))
      (pss_cons (ps_set (i := 4) nd rfl (Or.inr rfl) (pe_ix ix_list (pv 2) (pe_op op_sub (pv 3) pe_int) (fun _ _ => rfl)))
      (pss_one (ps_expr (pe_bm PySem.F.plainAttrs_list PySem.F.slot_list_append PySem.F.type_list_append mt_append (pv 2) (pa_cons (pe_lc (own := [("end", 5)]) (g := gName 5) (by rfl) nd (pi_range1 rfl (b_range C) (pa_cons (pe_callB call_len_seq (by rfl) (b_len C) boot_len (pa_cons (pv 0) pa_nil)) pa_nil))
        (blkOk_by (own := [("end", 5)]) (N := ["row", "counted", "found", "at", "last", "end", "start"]) (sc := defScope sRowsByCopies) (by decide +kernel))
        (fun _ _ _ _ _ => pg_name (i := 5) nd rfl (Or.inr rfl)) (fun _ _ _ _ _ => pts_nil)
        (fun _ _ _ _ _ => pe_callB (crSum (K := K) rfl rfl) (by rfl) (b_sum C) boot_sum (pa_cons (pe_lc (own := [("start", 6)]) (g := gName 6) (by rfl) nd (pi_range1 rfl (b_range C) (pa_cons (pv 5) pa_nil))
          (blkOk_by (own := [("start", 6)]) (N := ["row", "counted", "found", "at", "last", "end", "start"]) (sc := { kind := .function, names := [(".0", .local), ("end", .cell), ("sum", .globalImplicit), ("range", .globalImplicit), ("counted", .cell), ("last", .cell)], isGenerator := false, isCoroutine := false }) (by decide +kernel))
          (fun _ _ _ _ _ => pg_name (i := 6) nd rfl (Or.inl rfl)) (fun _ _ _ _ _ => pts_nil)
          (fun _ _ _ _ _ => pe_op op_mulW (pe_ix (ixL (K := K) rfl) (pv 4) (pv 6) (fun _ _ => rfl)) (pe_ix (ixL (K := K) rfl) (pe_ix (ixL (K := K) rfl) (pv 1) (pv 6) (fun _ _ => rfl)) (pv 5) (fun _ _ => rfl)))) pa_nil))) pa_nil))))))
    (pss_one (ps_ret (pv 2)))), ?_⟩
  have pos : ∀ k, 0 < (rowOf w st0 (conv f (pw (less g) k))).length := fun k => by rw [rowOf_len]; omega
  have e0 : conv f (pw (less g) 0) = f := funext (conv_one f)
  refine ⟨.ref r, rfl, r, _, rfl, .inl (sq hr0), fun r2 hr2 => ?_⟩
  refine ⟨by show 1 ≤ sizeLine; decide, fun D hD => ?_⟩
  have s2 := (sm_new hr2 (.lst (nV (rowOf w st0 f)))).trans (sm_new hD (.lst [.ref r2]))
  have nD2 : D ≠ r2 := fun e => by
    rw [e, upd_same] at hD
    cases hD
  have hD0 : H D = none := by rwa [upd_ne nD2] at hD
  have hr3 : (upd (upd H r2 (.lst (nV (rowOf w st0 f)))) D (.lst [.ref r2])) r2 = some (.lst (nV (rowOf w st0 f))) := by
    rw [upd_ne nD2.symm]
    exact upd_same
  have el : ∀ z : List V, z.length = w.length + 1 → ((((z.length : Nat) : Int)) - 1).toNat = w.length := fun z h => by omega
  refine ⟨.ref r, rfl, r, _, rfl, .inl (sq (s2 _ _ hr0)), 1, _, rfl, ⟨by omega, by omega, by rw [List.length_map, rowOf_len]; omega, by rw [List.length_map, rowOf_len]; omega⟩, ?_⟩
  refine for_go walk_range (fun i σ H' => ∃ (qs : List Addr) (v3 v4 : Option V), σ = [some (.ref r), some (.ref c), some (.ref D), v3, v4, none, none] ∧ Same H H' ∧ H' D = some (.lst (qs.map V.ref)) ∧ Mx H' qs (fun k => rowOf w st0 (conv f (pw (less g) k))) (i + 1)) ⟨[r2], none, none, rfl, s2, upd_same, rfl, fun k a e => ?_⟩ (fun _ _ _ _ _ => trivial) (fun i x σ H2 H3 hi p y => ?_) (fun σ H' p => ?_)
  · have hk : k = 0 := by
      have := (List.getElem?_eq_some_iff.mp e).1
      simp at this
      omega
    subst hk
    obtain rfl : r2 = a := Option.some.inj e
    show _ = some (HO.lst (nV (rowOf w st0 (conv f (pw (less g) 0)))))
    rw [hr3, e0]
  · obtain ⟨qs, v3, v4, rfl, sm, hDi, hqs⟩ := p
    obtain ⟨rfl, rfl⟩ := y
    have hi : i < w.length := by
      rw [List.length_map, rowOf_len] at hi
      omega
    obtain ⟨la, hla⟩ : ∃ a, qs[i]? = some a := ⟨_, List.getElem?_eq_getElem (by rw [hqs.1]; omega)⟩
    have hlast := hqs.2 i la hla
    have hqg : (qs.map V.ref)[i]? = some (.ref la) := by rw [List.getElem?_map, hla]; rfl
    refine ⟨.ref D, rfl, .int (1 + ((i : Nat) : Int)), rfl, _, _, rfl, rfl, D, _, _, _, rfl, rfl, sq hDi, by rw [show 1 + ((i : Nat) : Int) - 1 = ((i : Nat) : Int) by omega]; exact atI_nat hqg, ?_⟩
    have aP := (Sm.pw aG.less i)
    have aL := aF.conv aP
    have eN : rowOf w st0 (conv f (pw (less g) (i + 1))) = rowOf w st0 (conv (conv f (pw (less g) i)) (less g)) := rowOf_congr fun u _ => (conv_assoc f (pw (less g) i) (less g) u).symm
    have hlast : H3 la = some (.lst (nV (rowOf w st0 (conv f (pw (less g) i))))) := hlast
    generalize hF : conv f (pw (less g) i) = F at hlast aL eN
    refine ⟨.ref D, rfl, .inl ⟨rfl, _, sq hDi⟩, .ref r, rfl, r, _, rfl, .inl (sq (sm _ _ hr0)), _, rfl, by rw [List.length_map, rowOf_len]; omega, by rw [List.length_map, rowOf_len]; omega, fun D2 hD2 => ?_⟩
    rw [show ((((nV (rowOf w st0 f)).length : Nat) : Int)).toNat = w.length + 1 by rw [List.length_map, rowOf_len]; omega]
    refine lc_vals (walk_range (lo := 0) (n := w.length + 1)) (xs := nV (rowOf w st0 (conv F (less g)))) (by rw [List.length_map, rowOf_len]) (by omega) hD2 (fun _ _ => trivial) (fun e v x H4 H5 hv he s4 y => ?_) (fun H4 s4 h4 => ?_)
    · obtain ⟨rfl, rfl⟩ := y
      have hv2 := get_nV (rowOf_get (w := w) (s := st0) (f := conv F (less g)) (e := e) (by omega))
      rw [hv] at hv2
      obtain rfl := Option.some.inj hv2
      have key : ∃ D3, True := ⟨D2, trivial⟩
      refine ⟨?_, fun R E hR => ⟨rfl, _, rfl, _, rfl, by omega, by omega, fun D3 hD3 => ?_⟩⟩
      · exact Same.refl _
      rw [show (0 + ((e : Nat) : Int)).toNat = e by omega]
      refine lc_vals (walk_range (lo := 0) (n := e)) (xs := ((List.range e).map fun i => ((sl w st0 F i * sl w i g e : Nat) : Int)).map V.int) (by simp) (by omega) hD3 (fun _ _ => trivial) (fun j v x H6 H7 hv hj s6 y => ?_) (fun H6 s6 h6 => ?_)
      · obtain ⟨rfl, rfl⟩ := y
        rw [List.getElem?_map, List.getElem?_map, List.getElem?_range hj] at hv
        obtain rfl : V.int ((sl w st0 F j * sl w j g e : Nat) : Int) = v := Option.some.inj hv
        have ej : (0 : Int) + ((j : Nat) : Int) = ((j : Nat) : Int) := Int.zero_add _
        have ee : (0 : Int) + ((e : Nat) : Int) = ((e : Nat) : Int) := Int.zero_add _
        have sA := s4.trans s6
        obtain ⟨ra, hra⟩ : ∃ a, rs[j]? = some a := ⟨_, List.getElem?_eq_getElem (by rw [hM.1]; omega)⟩
        have hrg : (rs.map V.ref)[j]? = some (.ref ra) := by rw [List.getElem?_map, hra]; rfl
        have hrow := hM.2 j ra hra
        refine ⟨Same.refl _, fun R E hR => ⟨rfl, .ref la, rfl, .int (0 + ((j : Nat) : Int)), rfl, la, _, _, _, rfl, rfl, sq (sA _ _ hlast), by rw [ej]; exact atI_nat (get_nV (rowOf_get (by omega))), .ref c, rfl, .int (0 + ((j : Nat) : Int)), rfl, c, _, _, _, rfl, rfl, sq ((sm.trans sA) _ _ hc), by rw [ej]; exact atI_nat hrg, .int (0 + ((e : Nat) : Int)), rfl, ra, _, _, _, rfl, rfl, sq ((sm.trans sA) _ _ hrow), by rw [ee]; exact atI_nat (get_nV (rowOf_get (by omega))), _, _, rfl, rfl, wide_mul (a := B + (1 + i * (601 + 2)) + 2) (b := 601) (show ((sl w st0 F j : Nat) : Int).natAbs < _ from sl_lt aL hw) (show ((sl w j g e : Nat) : Int).natAbs < _ from sl_lt aG hw) (by omega) (by omega) (by omega), ?_⟩⟩
        have := hR _ (Same.refl _)
        rw [Int.natCast_mul] at this
        exact this
      · refine ⟨D3, _, rfl, sq h6, ?_⟩
        rw [sums, sl_copy F g (by omega)]
        exact hR _ s6
    · refine ⟨D, _, _, rfl, rfl, s4 _ _ hDi, by rw [List.length_map, hqs.1]; exact small1000 (by omega), qs ++ [D2], _, _, rfl, (sm.trans s4).mut hD0 _, by rw [upd_same, List.map_append]; rfl, ?_⟩
      refine Mx.grow (hqs.same s4) (s4 _ _ hDi) ?_ pos
      show _ = some (HO.lst (nV (rowOf w st0 (conv f (pw (less g) (i + 1))))))
      rw [h4, eN]
  · obtain ⟨qs, v3, v4, rfl, sm, hDi, hqs⟩ := p
    refine ⟨.ref D, rfl, q D qs H' hD0 sm hDi ?_⟩
    rw [List.length_map, rowOf_len] at hqs
    rw [show w.length + 1 = ((((w.length + 1 : Nat) : Int)) - 1).toNat + 1 by omega]
    exact hqs
theorem scRowBehindCopies : FnScope ["rows", "often", "ways", "at", "end", "many", "row"] ["rows", "often"] (defScope sRowBehindCopies) := fnScope_by (by decide +kernel)
def spRowCopies : Sp := fun vs H Q _ => ∃ (w : Tx) (s m : Nat) (f N : Ser) (B : Nat) (q : Addr) (qs : List Addr), vs = [.ref q, nat m] ∧ w.length ≤ 3 ∧ m < 2 ^ 100 ∧ H q = some (.lst (qs.map V.ref)) ∧ Mx H qs (fun k => rowOf w s (conv f (pw N k))) (w.length + 1) ∧ Sm f B ∧ Sm N 601 ∧ B ≤ 900000 ∧ RL (nV (rowOf w s (conv f (bs N m (w.length + 1))))) H Q
theorem c_row_behind_copies (C : Ctx K mg) : Cal P w K mg base 2 "row_behind_copies" spRowCopies [] := by
  refine (fRowBehindCopies C).cal scRowBehindCopies (fun _ _ _ _ _ _ us hl => match us, hl with | [_, _], _ => rfl) (fun vs H Q E h => ?_) (fun cdv A outer s H vs Q E hr h => ?_)
  · obtain ⟨w, s, m, f, N, B, q, qs, rfl, _⟩ := h
    rfl
  obtain ⟨w, st0, m, f, N, B, q, qs, rfl, hw, hm, hq, hM, aF, aN, hB, Qf⟩ := h
  have nd := scRowBehindCopies.nd
  refine ⟨_, pss_cons (ps_set (i := 2) nd rfl (Or.inr rfl) (pe_lc (own := [("at", 3)]) (g := gName 3) (by rfl) nd (pi_range1 rfl (b_range C) (pa_cons (pe_callB call_len_seq (by rfl) (b_len C) boot_len (pa_cons (pv 0) pa_nil)) pa_nil))
        (blkOk_by (own := [("at", 3)]) (N := ["rows", "often", "ways", "at", "end", "many", "row"]) (sc := defScope sRowBehindCopies) (by decide +kernel))
        (fun _ _ _ _ _ => pg_name (i := 3) nd rfl (Or.inl rfl)) (fun _ _ _ _ _ => pts_nil)
        (fun _ _ _ _ _ => pe_c (c_binomial (P := P) (base := base) C) hr (by decide) (by rfl) (pa_cons (pv 1) (pa_cons (pv 3) pa_nil)))))
    (pss_one (ps_ret (pe_lc (own := [("end", 4)]) (g := gName 4) (by rfl) nd (pi_range1 rfl (b_range C) (pa_cons (pe_callB call_len_seq (by rfl) (b_len C) boot_len (pa_cons (pv 0) pa_nil)) pa_nil))
        (blkOk_by (own := [("end", 4)]) (N := ["rows", "often", "ways", "at", "end", "many", "row"]) (sc := defScope sRowBehindCopies) (by decide +kernel))
        (fun _ _ _ _ _ => pg_name (i := 4) nd rfl (Or.inr rfl)) (fun _ _ _ _ _ => pts_nil)
        (fun _ _ _ _ _ => pe_callB (crSum (K := K) rfl rfl) (by rfl) (b_sum C) boot_sum (pa_cons (pe_lc (own := [("many", 5), ("row", 6)]) (g := g2 K 5 6) (by rfl) nd (piK (wi' := iZipS K _) (pi_zipS rfl (b_zip C) (pa_cons (pv 2) (pa_cons (pv 0) pa_nil))) rfl)
          (blkOk_by (own := [("many", 5), ("row", 6)]) (N := ["rows", "often", "ways", "at", "end", "many", "row"]) (sc := { kind := .function, names := [(".0", .local), ("end", .cell), ("sum", .globalImplicit), ("zip", .globalImplicit), ("rows", .cell), ("ways", .cell)], isGenerator := false, isCoroutine := false }) (by decide +kernel))
          (fun _ _ _ _ _ => pg_tup (by rfl) (pgs_cons (pg_name (i := 5) nd rfl (Or.inl rfl)) (pgs_cons (pg_name (i := 6) nd rfl (Or.inl rfl)) pgs_nil))) (fun _ _ _ _ _ => pts_nil)
          (fun _ _ _ _ _ => pe_op op_mulW (pv 5) (pe_ix (ixL (K := K) rfl) (pv 6) (pv 4) (fun _ _ => rfl)))) pa_nil))))), ?_⟩
  have ql : (qs.map V.ref).length = w.length + 1 := by rw [List.length_map, hM.1]
  have qe : ((((qs.map V.ref).length : Nat) : Int)).toNat = w.length + 1 := by rw [ql]; omega
  refine ⟨.ref q, rfl, q, _, rfl, .inl (sq hq), _, rfl, by rw [ql]; omega, by rw [ql]; omega, fun W hW => ?_⟩
  rw [qe]
  refine lc_vals (walk_range (lo := 0) (n := w.length + 1)) (xs := nV ((List.range (w.length + 1)).map fun k => ch m k)) (by simp) (by omega) hW (fun _ _ => trivial) (fun j v x H1 H2 hv hj s1 y => ?_) (fun H1 s1 hW1 => ?_)
  · obtain ⟨rfl, rfl⟩ := y
    rw [List.getElem?_map, List.getElem?_map, List.getElem?_range hj] at hv
    obtain rfl : nat (ch m j) = v := Option.some.inj hv
    have ej : (0 : Int) + ((j : Nat) : Int) = ((j : Nat) : Int) := Int.zero_add _
    exact ⟨Same.refl _, fun R E hR => ⟨rfl, nat m, rfl, .int (0 + ((j : Nat) : Int)), rfl, m, j, by rw [ej]; rfl, hm, by omega, hR _ (Same.refl _)⟩⟩
  refine ⟨.ref q, rfl, q, _, rfl, .inl (sq (s1 _ _ hq)), _, rfl, by rw [ql]; omega, by rw [ql]; omega, fun D hD => ?_⟩
  rw [qe]
  refine lc_vals (walk_range (lo := 0) (n := w.length + 1)) (xs := nV (rowOf w st0 (conv f (bs N m (w.length + 1))))) (by rw [List.length_map, rowOf_len]) (by omega) hD (fun _ _ => trivial) (fun e v x H2 H3 hv he s2 y => ?_) (fun H2 s2 h2 => ?_)
  · obtain ⟨rfl, rfl⟩ := y
    have hv2 := get_nV (rowOf_get (w := w) (s := st0) (f := conv f (bs N m (w.length + 1))) (e := e) (by omega))
    rw [hv] at hv2
    obtain rfl := Option.some.inj hv2
    refine ⟨Same.refl _, fun R E hR => ⟨rfl, .ref W, rfl, .ref q, rfl, W, q, _, _, rfl, sq (s2 _ _ hW1), sq ((s1.trans s2) _ _ hq), fun D3 hD3 => ?_⟩⟩
    have wl : (nV ((List.range (w.length + 1)).map fun k => ch m k)).length = w.length + 1 := by simp
    refine lc_vals (walk_zipS (wl.trans ql.symm)) (xs := ((List.range (w.length + 1)).map fun k => ((ch m k * sl w st0 (conv f (pw N k)) e : Nat) : Int)).map V.int) (by simp) (by rw [wl]; omega) hD3 (fun H4 s4 => ⟨sq ((s2.trans s4) _ _ hW1), sq (((s1.trans s2).trans s4) _ _ hq)⟩) (fun k v x H4 H5 hv hk s4 y => ?_) (fun H4 s4 h4 => ?_)
    · obtain ⟨T, x, z, rfl, nT, rfl, hu, hz⟩ := y
      rw [wl] at hk
      have hu : (nV ((List.range (w.length + 1)).map fun k => ch m k))[k]? = some x := hu
      have hz : (qs.map V.ref)[k]? = some z := hz
      rw [List.getElem?_map, List.getElem?_map, List.getElem?_range hk] at hv hu
      obtain rfl : V.int ((ch m k * sl w st0 (conv f (pw N k)) e : Nat) : Int) = v := Option.some.inj hv
      obtain rfl : nat (ch m k) = x := Option.some.inj hu
      obtain ⟨qa, hqa, rfl⟩ := get_map hz
      have hrow := hM.2 k qa hqa
      have sT := sm_new nT (.tup [nat (ch m k), .ref qa])
      have ee : (0 : Int) + ((e : Nat) : Int) = ((e : Nat) : Int) := Int.zero_add _
      have aP := aF.conv (Sm.pw aN k)
      refine ⟨sT, fun R E hR => ⟨T, _, rfl, st upd_same, rfl, _, _, rfl, _, [], rfl, rfl, rfl, nat (ch m k), rfl, .ref qa, rfl, .int (0 + ((e : Nat) : Int)), rfl, qa, _, _, _, rfl, rfl, sq ((((s1.trans s2).trans s4).trans sT) _ _ hrow), by rw [ee]; exact atI_nat (get_nV (rowOf_get (by omega))), _, _, rfl, rfl, wide_mul (a := 101 * k + 1) (b := B + (1 + k * (601 + 2)) + 2) (ch_lt hm) (show ((sl w st0 (conv f (pw N k)) e : Nat) : Int).natAbs < _ from sl_lt aP hw) (by omega) (by omega) (by omega), ?_⟩⟩
      have := hR _ (Same.refl _)
      rw [Int.natCast_mul] at this
      exact this
    · refine ⟨D3, _, rfl, sq h4, ?_⟩
      rw [sums, sl_ways]
      exact hR _ s4
  · exact Qf D H2 (s1.free hD) (s1.trans s2) h2
end
end Sk
end
section
set_option Elab.async false
set_option linter.all false
set_option maxRecDepth 100000
set_option maxHeartbeats 4000000
namespace Sk
open PySem PySem.Spec PyProof.Rows L2 SX C8
theorem row_next {its : List Pc} {i : Nat} {q : Pc} (h : its[i]? = some q) (f : Ser) : conv f (cn (whole (its.take (i + 1)))) = conv (conv f (cn (whole (its.take i)))) (cn (rep q.2.2 q.2.1)) := by
  rw [whole_snoc h, show cn (whole (its.take i) ++ rep q.2.2 q.2.1) = conv (cn (whole (its.take i))) (cn (rep q.2.2 q.2.1)) from funext (cnt_app _ _)]
  exact (funext (conv_assoc _ _ _)).symm
theorem row_bs (w : Tx) (s : Nat) (f : Ser) (t : Tx) (m : Nat) : rowOf w s (conv f (bs (less (cn t)) m (w.length + 1))) = rowOf w s (conv f (cn (rep t m))) := rowOf_congr fun u hu => conv_upto u f fun v hv => by
  rw [cn_rep]
  exact (pw_bs (f := cn t) (cnt_nil t) m w.length v (by omega)).symm
theorem rep_one (t : Tx) : rep t 1 = t := by simp [rep]
theorem rep_nil (t : Tx) : rep t 0 = [] := rfl
theorem cn_empty : cn [] = one := funext cnt_nil_text
section
variable {P : Program} {w : World} {K : PySem.W.Frag} {mg : Str → Option Value} {base : Heap}
abbrev nRB : List Str := ["word", "part", "row", "item", "often"]
theorem scRowBehind : FnScope nRB ["word", "part", "row"] (defScope sRowBehind) := fnScope_by (by decide +kernel)
def spRB (K : PySem.W.Frag) (n : Nat) : Sp := fun vs H Q _ => ∃ (w : Tx) (v : V) (t : Tx) (r : Addr) (s : Nat) (f : Ser) (B : Nat), vs = [tV w, v, .ref r] ∧ w.length ≤ 3 ∧ Part K n H v t ∧ H r = some (.lst (nV (rowOf w s f))) ∧ Sm f B ∧ B ≤ 100000 * (3 - n) ∧
  ∀ (p : Addr) (H' : Hp), Same H H' → H' p = some (.lst (nV (rowOf w s (conv f (cn t))))) → Q (.ref p) H'
theorem c_row_behind0 (C : Ctx K mg) : Cal P w K mg base 2 "row_behind" (spRB K 0) [] := by
  refine (fRowBehind C).cal scRowBehind (fun _ _ _ _ _ _ us hl => match us, hl with | [_, _, _], _ => rfl) (fun vs H Q E h => ?_) (fun cdv A outer s H vs Q E hr h => ?_)
  · obtain ⟨w, v, t, r, s, f, B, rfl, _⟩ := h
    rfl
  obtain ⟨w, v, t, r, st0, f, B, rfl, hw, hp, hr0, aF, hB, q⟩ := h
  refine ⟨_, pss_cons (ps_if (pt_not (pt_val (pe_callB (callIsi (K := K) rfl) (by rfl) (b_isinstance C) boot_isinstance (pa_cons (pv 1) (pa_cons (pe_glob (v := .ref (KC K)) (by rfl) (gKept C) rfl) pa_nil)))))
      (pss_one (ps_ret (pe_c (c_row_behind_text C) hr (by decide) (by rfl) (pa_cons (pv 0) (pa_cons (pv 1) (pa_cons (pv 2) pa_nil)))))) pss_nil)
    (pss_cons ps_never (pss_one ps_never)), ?_⟩
  obtain ⟨ty, u, g1, g2, g3⟩ := isi_part C hp
  obtain ⟨rfl, h1, h2⟩ := hp
  refine ⟨tV t, rfl, tV t, .ref (KC K), ty, u, _, rfl, g1, g2, g3, _, rfl, iteT ?_⟩
  exact ⟨tV w, rfl, tV t, rfl, .ref r, rfl, w, t, r, st0, f, rfl, hw, hr0, fun p H' np s' h' => q p H' s' h'⟩
abbrev nPC : List Str := ["word", "part", "found", "row"]
theorem scPieceCounts : FnScope nPC ["word", "part"] (defScope sPieceCounts) := fnScope_by (by decide +kernel)
def spPC0 (K : PySem.W.Frag) : Sp := fun vs H Q _ => ∃ (w t : Tx) (v : V), vs = [tV w, v] ∧ w.length ≤ 3 ∧ Part K 0 H v t ∧ ∀ (p : Addr) (rs : List Addr) (H' : Hp), Same H H' → H' p = some (.lst (rs.map V.ref)) → Mx H' rs (fun s => rowOf w s (cn t)) (w.length + 1) → Q (.ref p) H'
theorem c_piece_counts0 (C : Ctx K mg) : Cal P w K mg base 2 "piece_counts" (spPC0 K) [] := by
  refine (fPieceCounts C).cal scPieceCounts (fun _ _ _ _ _ _ us hl => match us, hl with | [_, _], _ => rfl) (fun vs H Q E h => ?_) (fun cdv A outer s H vs Q E hr h => ?_)
  · obtain ⟨w, t, v, rfl, _⟩ := h
    rfl
  obtain ⟨w, t, v, rfl, hw, hp, q⟩ := h
  have nd := scPieceCounts.nd
  refine ⟨_, pss_cons (ps_if (pt_not (pt_val (pe_callB (callIsi (K := K) rfl) (by rfl) (b_isinstance C) boot_isinstance (pa_cons (pv 1) (pa_cons (pe_glob (v := .ref (KC K)) (by rfl) (gKept C) rfl) pa_nil)))))
      (pss_one (ps_ret (pe_lc (own := [("row", 3)]) (g := gName 3) (by rfl) nd (pi_list (pe_c (c_unit_of C) hr (by decide) (by rfl) (pa_cons (pe_op op_add (pe_callB call_len_str (by rfl) (b_len C) boot_len (pa_cons (pv 0) pa_nil)) pe_int) pa_nil)))
        (blkOk_by (own := [("row", 3)]) (N := nPC) (sc := defScope sPieceCounts) (by decide +kernel))
        (fun _ _ _ _ _ => pg_name (i := 3) nd rfl (Or.inl rfl)) (fun _ _ _ _ _ => pts_nil)
        (fun _ _ _ _ _ => pe_c (c_row_behind_text (P := P) (base := base) C) hr (by decide) (by rfl) (pa_cons (pv 0) (pa_cons (pv 1) (pa_cons (pv 3) pa_nil))))))) pss_nil)
    (pss_cons ps_never (pss_cons ps_never (pss_one ps_never))), ?_⟩
  obtain ⟨ty, u, g1, g2, g3⟩ := isi_part C hp
  obtain ⟨rfl, h1, h2⟩ := hp
  refine ⟨tV t, rfl, tV t, .ref (KC K), ty, u, _, rfl, g1, g2, g3, _, rfl, iteT ?_⟩
  refine ⟨tV w, rfl, S w, rfl, smallT (by omega), _, _, rfl, rfl, w, by rw [S_len]; rfl, hw, fun U us H1 nU s1 hU hus => ?_⟩
  refine ⟨U, rfl, ⟨_, sq hU⟩, fun D hD => it_go (walk_list (K := K) (a := U) (xs := us.map V.ref)) (fun i H2 => Same H1 H2 ∧ ∃ rs : List Addr, H2 D = some (.lst (rs.map V.ref)) ∧ Mx H2 rs (fun s => rowOf w s (cn t)) i) ⟨sm_new hD _, [], upd_same, rfl, fun i a e => by simp at e⟩ (fun i H2 _ p => sq (p.1 _ _ hU)) (fun i x H2 H3 hi p y => ?_) (fun H2 p => ?_)⟩
  · obtain ⟨rfl, hx⟩ := y
    obtain ⟨p1, rs, p2, p3⟩ := p
    obtain ⟨a, ha, rfl⟩ := get_map hx
    refine ⟨rfl, tV w, rfl, tV t, rfl, .ref a, rfl, w, t, a, i, one, rfl, hw, p1 _ _ (hus.2 i a ha), fun p H4 np s4 h4 => ?_⟩
    rw [funext (one_conv (cn t))] at h4
    refine ⟨_, s4 _ _ p2, by rw [List.length_map, p3.1]; rw [List.length_map, hus.1] at hi; exact small1000 (by omega), (p1.trans s4).mut hD _, rs ++ [p], by rw [upd_same, List.map_append]; rfl, Mx.grow (p3.same s4) (s4 _ _ p2) h4 fun s => by rw [rowOf_len]; omega⟩
  · obtain ⟨p1, rs, p2, p3⟩ := p
    rw [List.length_map, hus.1] at p3
    exact q D rs H2 (s1.trans p1) p2 p3
theorem c_row_behind1 (C : Ctx K mg) : Cal P w K mg base 3 "row_behind" (spRB K 1) [] := by
  refine (fRowBehind C).cal scRowBehind (fun _ _ _ _ _ _ us hl => match us, hl with | [_, _, _], _ => rfl) (fun vs H Q E h => ?_) (fun cdv A outer s H vs Q E hr h => ?_)
  · obtain ⟨w, v, t, r, s, f, B, rfl, _⟩ := h
    rfl
  obtain ⟨w, v, t, r, st0, f, B, rfl, hw, hp, hr0, aF, hB, q⟩ := h
  have nd := scRowBehind.nd
  refine ⟨_, pss_cons (ps_if (pt_not (pt_val (pe_callB (callIsi (K := K) rfl) (by rfl) (b_isinstance C) boot_isinstance (pa_cons (pv 1) (pa_cons (pe_glob (v := .ref (KC K)) (by rfl) (gKept C) rfl) pa_nil)))))
      (pss_one ps_never) pss_nil)
    (pss_cons (ps_for PassesOwn.never rfl (pi_list (pe_mt0 (c_pieces (P := P) (base := base) C) hr (by decide) (pv 1))) (pg_tup (by rfl) (pgs_cons (pg_name (i := 3) nd rfl (Or.inl rfl)) (pgs_cons (pg_name (i := 4) nd rfl (Or.inl rfl)) pgs_nil)))
      (pss_one (ps_if (pt_cmpR op_eq (pv 4) pe_int (nomark _)) (pss_one (ps_set (i := 2) nd rfl (Or.inl rfl) (pe_c (c_row_behind0 C) hr (by decide) (by rfl) (pa_cons (pv 0) (pa_cons (pv 3) (pa_cons (pv 2) pa_nil))))))
        (pss_one (ps_if (pt_cmpR op_gt (pv 4) pe_int (nomark _)) (pss_one (ps_set (i := 2) nd rfl (Or.inl rfl) (pe_c (c_row_behind_copies C) hr (by decide) (by rfl) (pa_cons (pe_c (c_rows_by_copies C) hr (by decide) (by rfl) (pa_cons (pv 2) (pa_cons (pe_c (c_piece_counts0 C) hr (by decide) (by rfl) (pa_cons (pv 0) (pa_cons (pv 3) pa_nil))) pa_nil))) (pa_cons (pv 4) pa_nil))))) pss_nil)))))
    (pss_one (ps_ret (pv 2)))), ?_⟩
  obtain ⟨ty, u, g1, g2, g3⟩ := isi_part C hp
  obtain ⟨x, dx, p, c, sz, ts, its, rfl, hx, hpl, hT, hsz, rfl, hln, h4⟩ := hp
  refine ⟨.ref x, rfl, .ref x, .ref (KC K), ty, u, _, rfl, g1, g2, g3, _, rfl, iteF ?_⟩
  refine ⟨.ref x, rfl, x, dx, _, rfl, hx, rfl, x, dx, p, _, _, _, _, rfl, hx, hpl, fun pl H2 npl s2 hpl2 => ?_⟩
  refine ⟨pl, rfl, ⟨_, sq hpl2⟩, for_go (walk_list (K := K) (a := pl) (xs := ts.map V.ref)) (fun i σ H' => ∃ (R : Addr) (v3 v4 : Option V), σ = [some (tV w), some (.ref x), some (.ref R), v3, v4] ∧ Same H2 H' ∧ H' R = some (.lst (nV (rowOf w st0 (conv f (cn (whole (its.take i)))))))) ⟨r, none, none, rfl, Same.refl _, ?_⟩ (fun i σ H' _ p => ?_) (fun i z σ H3 H4 hi p y => ?_) (fun σ H' p => ?_)⟩
  · rw [s2 _ _ hr0, List.take_zero, show whole [] = [] from rfl, cn_empty, funext (conv_one f)]
  · obtain ⟨R, v3, v4, _, sm, _⟩ := p
    exact sq (sm _ _ hpl2)
  · obtain ⟨R, v3, v4, rfl, sm, hR⟩ := p
    obtain ⟨rfl, hz⟩ := y
    have sH := s2.trans sm
    obtain ⟨b, ⟨v, m, t⟩, rfl, hq, hb, hpt, hm⟩ := (hT.imp (.of sH) fun v t h => h.keep (.of sH)).get hz
    have htl := hpt.len
    rw [row_next hq]
    have aI := aF.conv (cn_small (t := whole (its.take i)) (Nat.le_trans (whole_take its i) hln))
    generalize conv f (cn (whole (its.take i))) = F at hR aI
    refine ⟨b, _, rfl, st hb, rfl, _, _, rfl, _, [], rfl, rfl, ?_⟩
    refine ⟨nat m, rfl, rfl, _, rfl, ?_⟩
    by_cases m1 : m = 1
    · subst m1
      rw [decide_eq_true (show nat 1 = V.int 1 from rfl)]
      refine iteT ?_
      refine ⟨tV w, rfl, v, rfl, .ref R, rfl, w, v, t, R, st0, F, _, rfl, hw, hpt, hR, aI, by omega, fun R2 H5 s5 h5 => ?_⟩
      exact ⟨R2, _, _, rfl, sm.trans s5, by rw [h5]; show _ = some (HO.lst (nV (rowOf w st0 (conv F (cn (rep t 1)))))); rw [rep_one]⟩
    · rw [decide_eq_false (show ¬ nat m = V.int 1 from fun z => m1 (by have := V.int.inj z; omega))]
      refine iteF ?_
      refine ⟨nat m, rfl, _, _, rfl, rfl, _, rfl, ?_⟩
      by_cases m0 : m = 0
      · subst m0
        rw [decide_eq_false (show ¬ (0 : Int) < ((0 : Nat) : Int) by decide)]
        refine iteF ?_
        refine ⟨R, _, _, rfl, sm, ?_⟩
        show _ = some (HO.lst (nV (rowOf w st0 (conv F (cn (rep t 0))))))
        rw [hR, rep_nil, cn_empty, funext (conv_one F)]
      · rw [decide_eq_true (show (0 : Int) < ((m : Nat) : Int) by omega)]
        refine iteT ?_
        refine ⟨.ref R, rfl, tV w, rfl, v, rfl, w, t, v, rfl, hw, hpt, fun M rs H5 s5 hM hMx => ?_⟩
        refine ⟨w, st0, F, cn t, _, R, M, rs, rfl, hw, s5 _ _ hR, hM, hMx, aI, cn_small htl, by omega, fun Mq qs H6 nMq s6 hMq hqs => ?_⟩
        refine ⟨nat m, rfl, w, st0, m, F, less (cn t), _, Mq, qs, rfl, hw, hm, hMq, hqs, aI, (cn_small htl).less, by omega, fun R2 H7 nR2 s7 h7 => ?_⟩
        refine ⟨R2, _, _, rfl, ((sm.trans s5).trans s6).trans s7, ?_⟩
        rw [h7, row_bs]
  · obtain ⟨R, v3, v4, rfl, sm, hR⟩ := p
    refine ⟨.ref R, rfl, q R H' (s2.trans sm) ?_⟩
    rw [List.length_map, hT.1, List.take_length] at hR
    exact hR
end
end Sk
end
section
set_option Elab.async false
set_option linter.all false
set_option maxRecDepth 100000
set_option maxHeartbeats 4000000
namespace Sk
open PySem PySem.Spec PyProof.Rows L2 SX C8
/-- all but dicts is as it was -/
def DK (H H' : Hp) : Prop := ∀ b o, H b = some o → (∀ kvs, o ≠ .dK kvs) → H' b = some o
theorem DK.of {H H' : Hp} (s : Same H H') : DK H H' := fun b o h _ => s b o h
theorem DK.trans {H H1 H2 : Hp} (a : DK H H1) (b : DK H1 H2) : DK H H2 := fun c o h n => b c o (a c o h n) n
theorem DK.but {H H' : Hp} {c : Addr} {kvs : List (Key × V)} (h : H c = some (.dK kvs)) (b : But c H H') : DK H H' := fun x o e n => b x o e fun z => by
  rw [z, h] at e
  exact n kvs (Option.some.inj e).symm
theorem DK.keep {H H' : Hp} (d : DK H H') : Keep H H' := fun b o h s => d b o h fun kvs e => by rw [e] at s; exact s
theorem DK.lst {H H' : Hp} (d : DK H H') {a : Addr} {xs : List V} (h : H a = some (.lst xs)) : H' a = some (.lst xs) := d _ _ h fun _ e => nomatch e
/-- the counts told so far -/
def Cold (S : List Tx) (H : Hp) (c : Addr) : Prop := ∃ kvs : List (Key × V), H c = some (.dK kvs) ∧ kvs.length ≤ S.length ∧ ∀ w, w ∉ S → valV kvs (kw w) = none
theorem Cold.same {S : List Tx} {H H' : Hp} {c : Addr} (s : Same H H') (h : Cold S H c) : Cold S H' c := let ⟨kvs, h1, h2, h3⟩ := h; ⟨kvs, s _ _ h1, h2, h3⟩
theorem Cold.more {S : List Tx} {H : Hp} {c : Addr} (w : Tx) (h : Cold S H c) : Cold (w :: S) H c := let ⟨kvs, h1, h2, h3⟩ := h; ⟨kvs, h1, Nat.le_trans h2 (by simp), fun v hv => h3 v fun z => hv (List.mem_cons_of_mem _ z)⟩
/-- one kept text in another -/
def Nest (K : PySem.W.Frag) (H : Hp) (x1 x0 c0 : Addr) (m : Nat) (u : Tx) : Prop := ∃ (dx p a dx0 : Addr) (b c d b0 c1 d0 : V), H x1 = some (.ins (KC K) dx [("_pieces", .ref p), ("_size", b), ("_length", c), ("_counted", d)]) ∧ H p = some (.lst [.ref a]) ∧ H a = some (.tup [.ref x0, nat m]) ∧
  Part K 1 H (.ref x0) u ∧ H x0 = some (.ins (KC K) dx0 [("_pieces", b0), ("_size", c1), ("_length", d0), ("_counted", .ref c0)]) ∧ m < 2 ^ 100 ∧ Part K 2 H (.ref x1) (rep u m)
theorem Nest.keep {K : PySem.W.Frag} {H H' : Hp} {x1 x0 c0 : Addr} {m : Nat} {u : Tx} (k : Keep H H') (h : Nest K H x1 x0 c0 m u) : Nest K H' x1 x0 c0 m u := by
  obtain ⟨dx, p, a, dx0, b, c, d, b0, c1, d0, h1, h2, h3, h4, h5, h6, h7⟩ := h
  exact ⟨dx, p, a, dx0, b, c, d, b0, c1, d0, k _ _ h1 rfl, k _ _ h2 (fun x hx => ⟨a, List.mem_singleton.mp hx⟩), k _ _ h3 trivial, h4.keep k, k _ _ h5 rfl, h6, h7.keep k⟩
def Live (K : PySem.W.Frag) (S : List Tx) (H : Hp) (v : V) (t : Tx) : Prop := Part K 1 H v t ∨ ∃ (x1 x0 c0 : Addr) (m : Nat) (u : Tx), v = .ref x1 ∧ Nest K H x1 x0 c0 m u ∧ t = rep u m ∧ Cold S H c0
theorem Live.same {K : PySem.W.Frag} {S : List Tx} {H H' : Hp} {v : V} {t : Tx} (s : Same H H') (h : Live K S H v t) : Live K S H' v t := by
  rcases h with h | ⟨x1, x0, c0, m, u, h1, h2, h3, h4⟩
  · exact .inl (h.keep (.of s))
  · exact .inr ⟨x1, x0, c0, m, u, h1, h2.keep (.of s), h3, h4.same s⟩
section
variable {P : Program} {w : World} {K : PySem.W.Frag} {mg : Str → Option Value} {base : Heap}
def spPC1 (K : PySem.W.Frag) : Sp := fun vs H Q _ => ∃ (w t : Tx) (x dx c : Addr) (b0 b1 b2 : V) (S : List Tx), vs = [tV w, .ref x] ∧ w.length ≤ 3 ∧ Part K 1 H (.ref x) t ∧ H x = some (.ins (KC K) dx [("_pieces", b0), ("_size", b1), ("_length", b2), ("_counted", .ref c)]) ∧ Cold S H c ∧ w ∉ S ∧ S.length ≤ 900 ∧
  ∀ (p : Addr) (rs : List Addr) (H' : Hp), But c H H' → Cold (w :: S) H' c → H' p = some (.lst (rs.map V.ref)) → Mx H' rs (fun s => rowOf w s (cn t)) (w.length + 1) → Q (.ref p) H'
theorem c_piece_counts1 (C : Ctx K mg) : Cal P w K mg base 4 "piece_counts" (spPC1 K) [] := by
  refine (fPieceCounts C).cal scPieceCounts (fun _ _ _ _ _ _ us hl => match us, hl with | [_, _], _ => rfl) (fun vs H Q E h => ?_) (fun cdv A outer s H vs Q E hr h => ?_)
  · obtain ⟨w, t, x, dx, c, b0, b1, b2, S, rfl, _⟩ := h
    rfl
  obtain ⟨w, t, x, dx, c, b0, b1, b2, Sx, rfl, hw, hp, hx, hcold, hwS, hSl, q⟩ := h
  have nd := scPieceCounts.nd
  refine ⟨_, pss_cons (ps_if (pt_not (pt_val (pe_callB (callIsi (K := K) rfl) (by rfl) (b_isinstance C) boot_isinstance (pa_cons (pv 1) (pa_cons (pe_glob (v := .ref (KC K)) (by rfl) (gKept C) rfl) pa_nil)))))
      (pss_one ps_never) pss_nil)
    (pss_cons (ps_set (i := 2) nd rfl (Or.inl rfl) (pe_mt (c_counted_ahead (P := P) (base := base) C) hr (by decide) (pv 1) (pa_cons (pv 0) pa_nil)))
    (pss_cons (ps_if (pt_cmpR op_isN (pv 2) pe_non (nomark _))
      (pss_cons (ps_setLc (i := 2) (own := [("row", 3)]) (g := gName 3) (by rfl) nd rfl rfl (sw_true rfl rfl rfl (by decide +kernel)) (pi_list (pe_c (c_unit_of C) hr (by decide) (by rfl) (pa_cons (pe_op op_add (pe_callB call_len_str (by rfl) (b_len C) boot_len (pa_cons (pv 0) pa_nil)) pe_int) pa_nil)))
        (blkOk_by (own := [("row", 3)]) (N := nPC) (sc := defScope sPieceCounts) (by decide +kernel))
        (fun _ _ _ _ _ => pg_name (i := 3) nd rfl (Or.inl rfl)) (fun _ _ _ _ _ => pts_nil)
        (fun _ _ _ _ _ => pe_c (c_row_behind1 (P := P) (base := base) C) hr (by decide) (by rfl) (pa_cons (pv 0) (pa_cons (pv 1) (pa_cons (pv 3) pa_nil)))))
      (pss_one (ps_expr (pe_mt (c_keep_counted (P := P) (base := base) C) hr (by decide) (pv 1) (pa_cons (pv 0) (pa_cons (pv 2) pa_nil))))))
      pss_nil)
    (pss_one (ps_ret (pv 2))))), ?_⟩
  obtain ⟨ty, u, g1, g2, g3⟩ := isi_part C hp
  obtain ⟨kvs, hk1, hk2, hk3⟩ := hcold
  refine ⟨.ref x, rfl, .ref x, .ref (KC K), ty, u, _, rfl, g1, g2, g3, _, rfl, iteF ?_⟩
  refine ⟨.ref x, rfl, x, dx, _, rfl, hx, rfl, tV w, rfl, x, dx, c, _, _, _, w, kvs, rfl, hx, hk1, hk3 w hwS, ?_⟩
  refine ⟨.non, rfl, rfl, _, rfl, iteT ?_⟩
  refine ⟨tV w, rfl, S w, rfl, smallT (by omega), _, _, rfl, rfl, w, by rw [S_len]; rfl, hw, fun U us H1 nU s1 hU hus => ?_⟩
  refine ⟨U, rfl, ⟨_, sq hU⟩, fun D hD => it_go (walk_list (K := K) (a := U) (xs := us.map V.ref)) (fun i H2 => Same H1 H2 ∧ ∃ rs : List Addr, H2 D = some (.lst (rs.map V.ref)) ∧ Mx H2 rs (fun s => rowOf w s (cn t)) i) ⟨sm_new hD _, [], upd_same, rfl, fun i a e => by simp at e⟩ (fun i H2 _ p => sq (p.1 _ _ hU)) (fun i z H2 H3 hi p y => ?_) (fun H2 p => ?_)⟩
  · obtain ⟨rfl, hz⟩ := y
    obtain ⟨p1, rs, p2, p3⟩ := p
    obtain ⟨a, ha, rfl⟩ := get_map hz
    refine ⟨rfl, tV w, rfl, .ref x, rfl, .ref a, rfl, w, .ref x, t, a, i, one, 1, rfl, hw, hp.keep (.of (s1.trans p1)), p1 _ _ (hus.2 i a ha), sm_one, by omega, fun p H4 s4 h4 => ?_⟩
    rw [funext (one_conv (cn t))] at h4
    refine ⟨_, s4 _ _ p2, by rw [List.length_map, p3.1]; rw [List.length_map, hus.1] at hi; exact small1000 (by omega), (p1.trans s4).mut hD _, rs ++ [p], by rw [upd_same, List.map_append]; rfl, Mx.grow (p3.same s4) (s4 _ _ p2) h4 fun s => by rw [rowOf_len]; omega⟩
  · obtain ⟨p1, rs, p2, p3⟩ := p
    rw [List.length_map, hus.1] at p3
    have s2 := s1.trans p1
    have hc2 := s2 _ _ hk1
    refine ⟨.ref x, rfl, x, dx, _, rfl, s2 _ _ hx, rfl, tV w, rfl, .ref D, rfl, x, dx, c, _, _, _, w, .ref D, kvs, rfl, s2 _ _ hx, hc2, by omega, .ref D, rfl, ?_⟩
    refine q D rs _ ((But.of s2).upd _) ⟨_, upd_same, ?_, fun v hv => ?_⟩ ?_ ⟨p3.1, fun s a e => ?_⟩
    · rw [putK_new _ (hk3 w hwS), List.length_append, List.length_cons]
      exact Nat.succ_le_succ hk2
    · rw [valV_put, if_neg (fun e => hv (by rw [kw_inj _ _ e]; exact List.mem_cons_self ..))]
      exact hk3 v fun z => hv (List.mem_cons_of_mem _ z)
    · rw [upd_ne (ne_of p2 hc2 (by intro z; cases z))]
      exact p2
    · have := p3.2 s a e
      rw [upd_ne (ne_of this hc2 (by intro z; cases z))]
      exact this
def spRB2 (K : PySem.W.Frag) : Sp := fun vs H Q _ => ∃ (w u : Tx) (x1 x0 c0 : Addr) (m : Nat) (S : List Tx) (r : Addr) (s : Nat) (f : Ser) (B : Nat), vs = [tV w, .ref x1, .ref r] ∧ w.length ≤ 3 ∧ Nest K H x1 x0 c0 m u ∧ Cold S H c0 ∧ w ∉ S ∧ S.length ≤ 900 ∧ H r = some (.lst (nV (rowOf w s f))) ∧ Sm f B ∧ B ≤ 100000 ∧
  ∀ (p : Addr) (H' : Hp), But c0 H H' → Cold (w :: S) H' c0 → H' p = some (.lst (nV (rowOf w s (conv f (cn (rep u m)))))) → Q (.ref p) H'
theorem c_row_behind2 (C : Ctx K mg) : Cal P w K mg base 5 "row_behind" (spRB2 K) [] := by
  refine (fRowBehind C).cal scRowBehind (fun _ _ _ _ _ _ us hl => match us, hl with | [_, _, _], _ => rfl) (fun vs H Q E h => ?_) (fun cdv A outer s H vs Q E hr h => ?_)
  · obtain ⟨w, u, x1, x0, c0, m, S, r, s, f, B, rfl, _⟩ := h
    rfl
  obtain ⟨w, u, x1, x0, c0, m, Sx, r, st0, f, B, rfl, hw, hN, hcold, hwS, hSl, hr0, aF, hB, q⟩ := h
  have nd := scRowBehind.nd
  refine ⟨_, pss_cons (ps_if (pt_not (pt_val (pe_callB (callIsi (K := K) rfl) (by rfl) (b_isinstance C) boot_isinstance (pa_cons (pv 1) (pa_cons (pe_glob (v := .ref (KC K)) (by rfl) (gKept C) rfl) pa_nil)))))
      (pss_one ps_never) pss_nil)
    (pss_cons (ps_for PassesOwn.never rfl (pi_list (pe_mt0 (c_pieces (P := P) (base := base) C) hr (by decide) (pv 1))) (pg_tup (by rfl) (pgs_cons (pg_name (i := 3) nd rfl (Or.inl rfl)) (pgs_cons (pg_name (i := 4) nd rfl (Or.inl rfl)) pgs_nil)))
      (pss_one (ps_if (pt_cmpR op_eq (pv 4) pe_int (nomark _)) (pss_one (ps_set (i := 2) nd rfl (Or.inl rfl) (pe_c (c_row_behind1 C) hr (by decide) (by rfl) (pa_cons (pv 0) (pa_cons (pv 3) (pa_cons (pv 2) pa_nil))))))
        (pss_one (ps_if (pt_cmpR op_gt (pv 4) pe_int (nomark _)) (pss_one (ps_set (i := 2) nd rfl (Or.inl rfl) (pe_c (c_row_behind_copies C) hr (by decide) (by rfl) (pa_cons (pe_c (c_rows_by_copies C) hr (by decide) (by rfl) (pa_cons (pv 2) (pa_cons (pe_c (c_piece_counts1 C) hr (by decide) (by rfl) (pa_cons (pv 0) (pa_cons (pv 3) pa_nil))) pa_nil))) (pa_cons (pv 4) pa_nil))))) pss_nil)))))
    (pss_one (ps_ret (pv 2)))), ?_⟩
  obtain ⟨dx, p, a, dx0, b, c, d, b0, c1, d0, hx, hpl, ha, hpt, hx0, hm, hp2⟩ := hN
  obtain ⟨ty, uu, g1, g2, g3⟩ := isi_part C hp2
  refine ⟨.ref x1, rfl, .ref x1, .ref (KC K), ty, uu, _, rfl, g1, g2, g3, _, rfl, iteF ?_⟩
  refine ⟨.ref x1, rfl, x1, dx, _, rfl, hx, rfl, x1, dx, p, _, _, _, _, rfl, hx, hpl, fun pl H2 npl s2 hpl2 => ?_⟩
  obtain ⟨kvs, hk1, hk2, hk3⟩ := hcold
  have hc2 : Cold Sx H2 c0 := ⟨kvs, s2 _ _ hk1, hk2, hk3⟩
  have npc : pl ≠ c0 := ne_of hpl2 (s2 _ _ hk1) (by intro z; cases z)
  refine ⟨pl, rfl, ⟨_, sq hpl2⟩, for_go (walk_list (K := K) (a := pl) (xs := [V.ref a])) (fun i σ H' => ∃ (R : Addr) (v3 v4 : Option V), σ = [some (tV w), some (.ref x1), some (.ref R), v3, v4] ∧ (i = 0 → H' = H2 ∧ R = r) ∧ But c0 H2 H' ∧ (i = 1 → Cold (w :: Sx) H' c0 ∧ H' R = some (.lst (nV (rowOf w st0 (conv f (cn (rep u m)))))))) ⟨r, none, none, rfl, fun _ => ⟨rfl, rfl⟩, But.refl _ _, fun z => by cases z⟩ (fun i σ H' _ p => ?_) (fun i z σ H3 H4 hi p y => ?_) (fun σ H' p => ?_)⟩
  · obtain ⟨R, v3, v4, _, _, sm, _⟩ := p
    exact sq (sm _ _ hpl2 npc)
  · obtain ⟨R, v3, v4, rfl, e0, sm, _⟩ := p
    obtain ⟨rfl, hz⟩ := y
    have hi0 : i = 0 := by
      have : [V.ref a].length = 1 := rfl
      omega
    subst hi0
    obtain ⟨rfl, rfl⟩ := e0 rfl
    obtain rfl : V.ref a = z := Option.some.inj hz
    have hR := s2 _ _ hr0
    have hpt2 := hpt.keep (.of s2)
    have hul := hpt.len
    refine ⟨a, _, rfl, st (s2 _ _ ha), rfl, _, _, rfl, _, [], rfl, rfl, ?_⟩
    refine ⟨nat m, rfl, rfl, _, rfl, ?_⟩
    by_cases m1 : m = 1
    · subst m1
      rw [decide_eq_true (show nat 1 = V.int 1 from rfl)]
      refine iteT ?_
      refine ⟨tV w, rfl, .ref x0, rfl, .ref R, rfl, w, .ref x0, u, R, st0, f, B, rfl, hw, hpt2, hR, aF, by omega, fun R2 H5 s5 h5 => ?_⟩
      exact ⟨R2, _, _, rfl, (fun z => by cases z), But.of s5, fun _ => ⟨(hc2.same s5).more w, by rw [h5, rep_one]⟩⟩
    · rw [decide_eq_false (show ¬ nat m = V.int 1 from fun z => m1 (by have := V.int.inj z; omega))]
      refine iteF ?_
      refine ⟨nat m, rfl, _, _, rfl, rfl, _, rfl, ?_⟩
      by_cases m0 : m = 0
      · subst m0
        rw [decide_eq_false (show ¬ (0 : Int) < ((0 : Nat) : Int) by decide)]
        refine iteF ?_
        exact ⟨R, _, _, rfl, (fun z => by cases z), But.refl _ _, fun _ => ⟨hc2.more w, by rw [hR, rep_nil, cn_empty, funext (conv_one f)]⟩⟩
      · rw [decide_eq_true (show (0 : Int) < ((m : Nat) : Int) by omega)]
        refine iteT ?_
        refine ⟨.ref R, rfl, tV w, rfl, .ref x0, rfl, w, u, x0, dx0, c0, _, _, _, Sx, rfl, hw, hpt2, s2 _ _ hx0, hc2, hwS, hSl, fun M rs H5 b5 hc5 hM hMx => ?_⟩
        have nRc : R ≠ c0 := ne_of hR (s2 _ _ hk1) (by intro z; cases z)
        refine ⟨w, st0, f, cn u, B, R, M, rs, rfl, hw, b5 _ _ hR nRc, hM, hMx, aF, cn_small hul, by omega, fun Mq qs H6 nMq s6 hMq hqs => ?_⟩
        refine ⟨nat m, rfl, w, st0, m, f, less (cn u), B, Mq, qs, rfl, hw, hm, hMq, hqs, aF, (cn_small hul).less, by omega, fun R2 H7 nR2 s7 h7 => ?_⟩
        exact ⟨R2, _, _, rfl, (fun z => by cases z), b5.trans (.of (s6.trans s7)), fun _ => ⟨(hc5.same s6).same s7, by rw [h7, row_bs]⟩⟩
  · obtain ⟨R, v3, v4, rfl, _, sm, h1⟩ := p
    obtain ⟨hcc, hR⟩ := h1 rfl
    exact ⟨.ref R, rfl, q R H' ((But.of s2).trans sm) hcc hR⟩
theorem scCountIn : FnScope ["word", "part"] ["word", "part"] (defScope sCountIn) := fnScope_by (by decide +kernel)
def spCount (K : PySem.W.Frag) : Sp := fun vs H Q _ => ∃ (w t : Tx) (v : V) (S : List Tx), vs = [tV w, v] ∧ w.length ≤ 3 ∧ Lo w ∧ Live K S H v t ∧ w ∉ S ∧ S.length ≤ 900 ∧ ∀ H', DK H H' → Live K (w :: S) H' v t → Q (nat (cnt w t)) H'
theorem row_unit (w : Tx) : nV (rowOf w 0 one) = [V.int 1] ++ List.replicate w.length (V.int 0) := by
  rw [rowOf, List.range_succ_eq_map, List.map_cons, List.map_map]
  show nat (sl w 0 one 0) :: _ = _
  rw [sl_one w 0 (by omega)]
  refine congrArg (V.int 1 :: ·) ?_
  show _ = List.replicate w.length (V.int 0)
  refine List.ext_getElem? fun i => ?_
  by_cases h : i < w.length
  · rw [List.getElem?_map, List.getElem?_map, List.getElem?_range h]
    show some (nat (sl w 0 one (i + 1))) = _
    rw [sl_one w 0 (by omega), if_neg (by omega), List.getElem?_replicate, if_pos h]
    rfl
  · rw [List.getElem?_eq_none (by simp; omega), List.getElem?_eq_none (by simp; omega)]
theorem sl_all (w : Tx) (f : Ser) : sl w 0 f w.length = f w := by
  unfold sl
  rw [if_pos (Nat.zero_le _), List.drop_zero, Nat.sub_zero, List.take_length]
theorem c_count_in (C : Ctx K mg) : Cal P w K mg base 6 "count_in" (spCount K) [] := by
  refine (fCountIn C).cal scCountIn (fun _ _ _ _ _ _ us hl => match us, hl with | [_, _], _ => rfl) (fun vs H Q E h => ?_) (fun cdv A outer s H vs Q E hr h => ?_)
  · obtain ⟨w, t, v, S, rfl, _⟩ := h
    rfl
  obtain ⟨w, t, v, Sx, rfl, hw, hlo, hL, hwS, hSl, q⟩ := h
  have fin : ∀ (f : Ser) {P : Nat}, True := fun _ _ => trivial
  have hget : ∀ f : Ser, (nV (rowOf w 0 (conv one f)))[w.length]? = some (nat (f w)) := fun f => by
    rw [get_nV (rowOf_get (Nat.le_refl _)), sl_all, one_conv]
  rcases hL with hp | ⟨x1, x0, c0, m, u, rfl, hN, rfl, hcold⟩
  · refine ⟨_, pss_one (ps_ret (pe_ix ix_list (pe_c (c_row_behind1 C) hr (by decide) (by rfl) (pa_cons (pv 0) (pa_cons (pv 1) (pa_cons (pe_op op_cat (pe_lst (pa_cons pe_int pa_nil)) (pe_op op_rep (pe_lst (pa_cons pe_int pa_nil)) (pe_callB call_len_str (by rfl) (b_len C) boot_len (pa_cons (pv 0) pa_nil)))) pa_nil)))) (pe_callB call_len_str (by rfl) (b_len C) boot_len (pa_cons (pv 0) pa_nil)) (fun _ _ => rfl))), ?_⟩
    refine ⟨tV w, rfl, v, rfl, by show 1 ≤ sizeLine; decide, fun p1 h1 => ?_⟩
    have s1 := sm_new h1 (.lst [V.int 1])
    refine ⟨by show 1 ≤ sizeLine; decide, fun p2 h2 => ?_⟩
    have s2 := sm_new h2 (.lst [V.int 0])
    refine ⟨tV w, rfl, S w, rfl, smallT (by omega), p2, _, _, rfl, rfl, upd_same, by rw [S_len]; omega, by rw [S_len]; omega, by rw [S_len]; exact small (by show 1 * _ ≤ _; omega), fun p3 h3 => ?_⟩
    have s3 := sm_new h3 (.lst (List.replicate (((S w).length : Nat) : Int).toNat [V.int 0]).flatten)
    have e3 : (List.replicate (((S w).length : Nat) : Int).toNat [V.int 0]).flatten = List.replicate w.length (V.int 0) := by
      rw [List.flatten_replicate_singleton, S_len]
      rfl
    refine ⟨p1, p3, _, _, rfl, rfl, s3 _ _ (s2 _ _ upd_same), upd_same, by rw [e3]; exact small (by simp; omega), fun p4 h4 => ?_⟩
    have s4 := sm_new h4 (.lst ([V.int 1] ++ (List.replicate (((S w).length : Nat) : Int).toNat [V.int 0]).flatten))
    have sA := ((s1.trans s2).trans s3).trans s4
    refine ⟨w, v, t, p4, 0, one, 1, rfl, hw, hp.keep (.of sA), by rw [upd_same, e3, row_unit], sm_one, by omega, fun R H5 s5 h5 => ?_⟩
    refine ⟨tV w, rfl, S w, rfl, smallT (by omega), R, _, _, _, rfl, rfl, sq h5, by rw [S_len]; exact atI_nat (hget _), ?_⟩
    exact q H5 (.of (sA.trans s5)) (.inl (hp.keep (.of (sA.trans s5))))
  · refine ⟨_, pss_one (ps_ret (pe_ix ix_list (pe_c (c_row_behind2 C) hr (by decide) (by rfl) (pa_cons (pv 0) (pa_cons (pv 1) (pa_cons (pe_op op_cat (pe_lst (pa_cons pe_int pa_nil)) (pe_op op_rep (pe_lst (pa_cons pe_int pa_nil)) (pe_callB call_len_str (by rfl) (b_len C) boot_len (pa_cons (pv 0) pa_nil)))) pa_nil)))) (pe_callB call_len_str (by rfl) (b_len C) boot_len (pa_cons (pv 0) pa_nil)) (fun _ _ => rfl))), ?_⟩
    refine ⟨tV w, rfl, .ref x1, rfl, by show 1 ≤ sizeLine; decide, fun p1 h1 => ?_⟩
    have s1 := sm_new h1 (.lst [V.int 1])
    refine ⟨by show 1 ≤ sizeLine; decide, fun p2 h2 => ?_⟩
    have s2 := sm_new h2 (.lst [V.int 0])
    refine ⟨tV w, rfl, S w, rfl, smallT (by omega), p2, _, _, rfl, rfl, upd_same, by rw [S_len]; omega, by rw [S_len]; omega, by rw [S_len]; exact small (by show 1 * _ ≤ _; omega), fun p3 h3 => ?_⟩
    have s3 := sm_new h3 (.lst (List.replicate (((S w).length : Nat) : Int).toNat [V.int 0]).flatten)
    have e3 : (List.replicate (((S w).length : Nat) : Int).toNat [V.int 0]).flatten = List.replicate w.length (V.int 0) := by
      rw [List.flatten_replicate_singleton, S_len]
      rfl
    refine ⟨p1, p3, _, _, rfl, rfl, s3 _ _ (s2 _ _ upd_same), upd_same, by rw [e3]; exact small (by simp; omega), fun p4 h4 => ?_⟩
    have s4 := sm_new h4 (.lst ([V.int 1] ++ (List.replicate (((S w).length : Nat) : Int).toNat [V.int 0]).flatten))
    have sA := ((s1.trans s2).trans s3).trans s4
    have hcA := hcold.same sA
    obtain ⟨kvs, hk1, _⟩ := hcold
    refine ⟨w, u, x1, x0, c0, m, Sx, p4, 0, one, 1, rfl, hw, hN.keep (.of sA), hcA, hwS, hSl, by rw [upd_same, e3, row_unit], sm_one, by omega, fun R H5 b5 hc5 h5 => ?_⟩
    refine ⟨tV w, rfl, S w, rfl, smallT (by omega), R, _, _, _, rfl, rfl, sq h5, by rw [S_len]; exact atI_nat (hget _), ?_⟩
    have dk : DK H H5 := DK.but hk1 ((But.of sA).trans b5)
    exact q H5 dk (.inr ⟨x1, x0, c0, m, u, rfl, hN.keep dk.keep, rfl, hc5⟩)
theorem scKeptCount : FnScope ["word", "kept"] ["word", "kept"] (defScope sKeptCount) := fnScope_by (by decide +kernel)
theorem c_kept_count (C : Ctx K mg) : Cal P w K mg base 7 "kept_count" (spCount K) [] := by
  refine (fKeptCount C).cal scKeptCount (fun _ _ _ _ _ _ us hl => match us, hl with | [_, _], _ => rfl) (fun vs H Q E h => ?_) (fun cdv A outer s H vs Q E hr h => ?_)
  · obtain ⟨w, t, v, S, rfl, _⟩ := h
    rfl
  obtain ⟨w, t, v, Sx, rfl, hw, hlo, hL, hwS, hSl, q⟩ := h
  refine ⟨_, pss_cons (ps_expr (pe_c (c_check_word C) hr (by decide) (by rfl) (pa_cons (pv 0) pa_nil)))
    (pss_cons (ps_expr (pe_c (c_check_kept C) hr (by decide) (by rfl) (pa_cons (pv 1) pa_nil)))
    (pss_one (ps_ret (pe_c (c_count_in C) hr (by decide) (by rfl) (pa_cons (pv 0) (pa_cons (pv 1) pa_nil)))))), ?_⟩
  have hpart : ∃ n, Part K (n + 1) H v t := by
    rcases hL with hp | ⟨x1, x0, c0, m, u, rfl, hN, rfl, hcold⟩
    · exact ⟨0, hp⟩
    · obtain ⟨dx, p, a, dx0, b, c, d, b0, c1, d0, hx, hpl, ha, hpt, hx0, hm, hp2⟩ := hN
      exact ⟨1, hp2⟩
  obtain ⟨n, hpart⟩ := hpart
  exact ⟨tV w, rfl, w, rfl, by omega, hlo, v, rfl, v, n, t, rfl, hpart, tV w, rfl, v, rfl, w, t, v, Sx, rfl, hw, hlo, hL, hwS, hSl, q⟩
end
end Sk
end
section
set_option Elab.async false
set_option linter.all false
set_option maxRecDepth 100000
set_option maxHeartbeats 4000000
namespace Sk
open PySem PySem.Spec PyProof.Rows L2 SX C8
/-- the generator -/
def GenAt (H : Hp) (g : Addr) (k : Nat) : Prop := ∃ n s c : Nat, H g = some (.lst [nat n, nat s, nat c]) ∧ c ≤ k
theorem GenAt.mono {H : Hp} {g : Addr} {k j : Nat} (h : GenAt H g k) (e : k ≤ j) : GenAt H g j := let ⟨n, s, c, h1, h2⟩ := h; ⟨n, s, c, h1, Nat.le_trans h2 e⟩
theorem GenAt.same {H H' : Hp} {g : Addr} {k : Nat} (s : Same H H') (h : GenAt H g k) : GenAt H' g k := let ⟨n, z, c, h1, h2⟩ := h; ⟨n, z, c, s _ _ h1, h2⟩
theorem GenAt.dk {H H' : Hp} {g : Addr} {k : Nat} (s : DK H H') (h : GenAt H g k) : GenAt H' g k := let ⟨n, z, c, h1, h2⟩ := h; ⟨n, z, c, s.lst h1, h2⟩
theorem nat_mod (n L : Nat) : V.int (((n : Nat) : Int) % ((L : Nat) : Int)) = nat (n % L) := congrArg V.int (Int.natCast_emod n L).symm
theorem nat_div (n L : Nat) : V.int (((n : Nat) : Int) / ((L : Nat) : Int)) = nat (n / L) := congrArg V.int (Int.natCast_ediv n L).symm
theorem int_nat {i : Int} (h : 0 ≤ i) : ∃ n : Nat, V.int i = nat n := ⟨i.toNat, congrArg V.int (Int.toNat_of_nonneg h).symm⟩
theorem cut_ints (ns : List Int) (lo hi : Option Int) : ∃ ms : List Int, cutV (ns.map V.int) lo hi = ms.map V.int := by
  unfold cutV
  rw [← List.map_drop, ← List.map_take]
  exact ⟨_, rfl⟩
section
variable {P : Program} {w : World} {K : PySem.W.Frag} {mg : Str → Option Value} {base : Heap}
theorem scLawCell : FnScope ["_law_script", "_law_index"] ["_law_script", "_law_index"] (defScope sLawCell) := fnScope_by (by decide +kernel)
def spLawCell (K : PySem.W.Frag) : Sp := fun vs H Q _ => ∃ (a : Addr) (ns : List Int) (i : Nat), vs = [.ref a, nat i] ∧ SqL K H a (ns.map V.int) ∧ ∀ (n : Int) (H' : Hp), Same H H' → Q (.int n) H'
theorem c_law_cell (C : Ctx K mg) : Cal P w K mg base 1 "_law_cell" (spLawCell K) [] := by
  refine (fLawCell C).cal scLawCell (fun _ _ _ _ _ _ us hl => match us, hl with | [_, _], _ => rfl) (fun vs H Q E h => ?_) (fun cdv A outer s H vs Q E hr h => ?_)
  · obtain ⟨a, ns, i, rfl, _⟩ := h
    rfl
  obtain ⟨a, ns, i, rfl, ha, q⟩ := h
  refine ⟨_, pss_cons (ps_if (pt_cmpR op_lt (pv 1) (pe_callB call_len_seq (by rfl) (b_len C) boot_len (pa_cons (pv 0) pa_nil)) (nomark _)) (pss_one (ps_ret (pe_ix ix_list (pv 0) (pv 1) (fun _ _ => rfl)))) pss_nil)
    (pss_one (ps_ret (pe_op op_mod (pe_callB (crSum (K := K) rfl rfl) (by rfl) (b_sum C) boot_sum (pa_cons (pe_slice sl_list (pv 0) po_none (po_some pe_int)) pa_nil)) pe_int))), ?_⟩
  refine ⟨nat i, rfl, .ref a, rfl, a, _, rfl, .inl ha, _, _, rfl, rfl, _, rfl, ?_⟩
  by_cases hi : i < ns.length
  · rw [decide_eq_true (show ((i : Nat) : Int) < (((ns.map V.int).length : Nat) : Int) by rw [List.length_map]; omega)]
    refine iteT ?_
    exact ⟨.ref a, rfl, nat i, rfl, a, _, _, _, rfl, rfl, ha, atI_nat (by rw [List.getElem?_map, List.getElem?_eq_getElem hi]; rfl), q _ H (Same.refl _)⟩
  · rw [decide_eq_false (show ¬ ((i : Nat) : Int) < (((ns.map V.int).length : Nat) : Int) by rw [List.length_map]; omega)]
    refine iteF ?_
    obtain ⟨ms, e⟩ := cut_ints ns none (some 1)
    refine ⟨.ref a, rfl, _, rfl, a, _, rfl, ha, fun p hp => ?_⟩
    rw [e]
    exact ⟨p, ms, rfl, sq upd_same, _, _, rfl, rfl, (by decide : (0 : Int) < 1000003), q _ _ (sm_new hp _)⟩
theorem scLawHash : FnScope ["_law_seed", "_law_index", "_law_mixed"] ["_law_seed", "_law_index"] (defScope sLawHash) := fnScope_by (by decide +kernel)
def spLawHash : Sp := fun vs H Q _ => ∃ (s c : Nat), vs = [nat s, nat c] ∧ c ≤ 2000000 ∧ ∀ n : Nat, Q (nat n) H
theorem c_law_hash (C : Ctx K mg) : Cal P w K mg base 1 "_law_hash" spLawHash [] := by
  refine (fLawHash C).cal scLawHash (fun _ _ _ _ _ _ us hl => match us, hl with | [_, _], _ => rfl) (fun vs H Q E h => ?_) (fun cdv A outer s H vs Q E hr h => ?_)
  · obtain ⟨s, c, rfl, _⟩ := h
    rfl
  obtain ⟨sd, c, rfl, hc, q⟩ := h
  have nd := scLawHash.nd
  refine ⟨_, pss_cons (ps_set (i := 2) nd rfl (Or.inl rfl) (pe_op op_mod (pe_callTy call_int1 (by rfl) (b_int C) PyProof.Rows.boot_int (pa_cons (pe_op op_add (pe_op op_add (pe_op op_add (pe_op op_mul (pv 0) pe_int) (pe_op op_mul (pe_op op_mul pe_int (pv 1)) (pv 1))) (pe_op op_mul pe_int (pv 1))) pe_int) pa_nil)) pe_int))
    (pss_cons (ps_set (i := 2) nd rfl (Or.inl rfl) (pe_op op_mod (pe_callTy call_int1 (by rfl) (b_int C) PyProof.Rows.boot_int (pa_cons (pe_op op_add (pe_op op_add (pe_op op_mul (pv 2) (pv 2)) (pe_op op_mul pe_int (pv 1))) pe_int) pa_nil)) pe_int))
    (pss_one (ps_ret (pe_op op_mod (pe_callTy call_int1 (by rfl) (b_int C) PyProof.Rows.boot_int (pa_cons (pe_op op_mul (pv 2) pe_int) pa_nil)) pe_int)))), ?_⟩
  refine ⟨nat sd, rfl, _, _, rfl, rfl, .inr ⟨by decide, by decide⟩, nat c, rfl, _, _, rfl, rfl, .inl ⟨by decide, by decide⟩, nat c, rfl, _, _, rfl, rfl, .inr ⟨by omega, by omega⟩, _, _, rfl, rfl, nat c, rfl, _, _, rfl, rfl, .inl ⟨by decide, by decide⟩, _, _, rfl, rfl, _, _, rfl, rfl, .inl ⟨_, rfl, ?_⟩⟩
  refine ⟨_, _, rfl, rfl, (by decide : (0 : Int) < 2147483629), ?_⟩
  have m0 : 0 ≤ ((sd : Int) * 1140671 + 27644437 * (c : Int) * (c : Int) + 131 * (c : Int) + 19) % 2147483629 := Int.emod_nonneg _ (by decide)
  have m1 : ((sd : Int) * 1140671 + 27644437 * (c : Int) * (c : Int) + 131 * (c : Int) + 19) % 2147483629 < 2147483629 := Int.emod_lt_of_pos _ (by decide)
  refine ⟨_, rfl, _, rfl, _, _, rfl, rfl, .inl ⟨Int.lt_of_lt_of_le (by decide) m0, Int.lt_trans m1 (by decide)⟩, nat c, rfl, _, _, rfl, rfl, .inl ⟨by decide, by decide⟩, _, _, rfl, rfl, _, _, rfl, rfl, .inl ⟨_, rfl, ?_⟩⟩
  refine ⟨_, _, rfl, rfl, (by decide : (0 : Int) < 2147483587), ?_⟩
  refine ⟨_, rfl, _, _, rfl, rfl, .inr ⟨by decide, by decide⟩, .inl ⟨_, rfl, ?_⟩⟩
  refine ⟨_, _, rfl, rfl, (by decide : (0 : Int) < 2147483647), ?_⟩
  have key : ∀ z : Int, Q (.int (z % 2147483647)) H := fun z => by
    obtain ⟨n, e⟩ := int_nat (Int.emod_nonneg z (by decide : (2147483647 : Int) ≠ 0))
    rw [e]
    exact q n
  exact key _
end
end Sk
end
section
set_option Elab.async false
set_option linter.all false
set_option maxRecDepth 100000
set_option maxHeartbeats 4000000
namespace Sk
open PySem PySem.Spec PyProof.Rows L2 SX C8
section
variable {P : Program} {w : World} {K : PySem.W.Frag} {mg : Str → Option Value} {base : Heap}
theorem scLawGenerator : FnScope ["_law_script", "_law_index", "_law_seed"] ["_law_script", "_law_index"] (defScope sLawGenerator) := fnScope_by (by decide +kernel)
def spLawGenerator (K : PySem.W.Frag) : Sp := fun vs H Q _ => ∃ (a : Addr) (ns : List Int) (i : Nat), vs = [.ref a, nat i] ∧ SqL K H a (ns.map V.int) ∧ i ≤ 1 ∧ ∀ (g : Addr) (H' : Hp), H g = none → Same H H' → GenAt H' g 1000 → Q (.ref g) H'
theorem c_law_generator (C : Ctx K mg) : Cal P w K mg base 2 "_law_generator" (spLawGenerator K) [] := by
  refine (fLawGenerator C).cal scLawGenerator (fun _ _ _ _ _ _ us hl => match us, hl with | [_, _], _ => rfl) (fun vs H Q E h => ?_) (fun cdv A outer s H vs Q E hr h => ?_)
  · obtain ⟨a, ns, i, rfl, _⟩ := h
    rfl
  obtain ⟨a, ns, i, rfl, ha, hi, q⟩ := h
  have nd := scLawGenerator.nd
  refine ⟨_, pss_cons (ps_set (i := 2) nd rfl (Or.inl rfl) (pe_c (c_law_cell C) hr (by decide) (by rfl) (pa_cons (pv 0) (pa_cons (pv 1) pa_nil))))
    (pss_one (ps_ret (pe_lst (pa_cons (pe_op op_mod (pe_callTy call_int1 (by rfl) (b_int C) PyProof.Rows.boot_int (pa_cons (pe_callB (call_max2 rfl) (by rfl) (b_max C) boot_max (pa_cons (pe_op op_sub (pv 2) (pe_op op_pow pe_int pe_int)) (pa_cons pe_int pa_nil))) pa_nil)) (pe_op op_powW (pe_op op_powW pe_int pe_int) pe_int))
      (pa_cons (pe_op op_mod (pe_callTy call_int1 (by rfl) (b_int C) PyProof.Rows.boot_int (pa_cons (pv 2) pa_nil)) pe_int)
      (pa_cons (pe_op op_mul pe_int (pv 1)) pa_nil)))))), ?_⟩
  refine ⟨.ref a, rfl, nat i, rfl, a, ns, i, rfl, ha, fun n H1 s1 => ?_⟩
  refine ⟨.int n, rfl, _, _, rfl, rfl, ⟨by decide, by decide, by decide⟩, _, _, rfl, rfl, _, _, rfl, .inl ⟨_, rfl, ?_⟩⟩
  refine ⟨_, _, rfl, rfl, ⟨by decide, by decide, by decide⟩, _, _, rfl, rfl, ⟨by decide, by decide, by decide⟩, _, _, rfl, rfl, (by decide : (0 : Int) < (10 ^ 60) ^ 10), ?_⟩
  obtain ⟨x, ex⟩ := int_nat (Int.emod_nonneg (if (0 : Int) > n - 10 ^ 18 then (0 : Int) else n - 10 ^ 18) (by decide : ((10 : Int) ^ 60) ^ 10 ≠ 0))
  obtain ⟨y, ey⟩ := int_nat (Int.emod_nonneg n (by decide : (2147483647 : Int) ≠ 0))
  have e3 : V.int (1000 * ((i : Nat) : Int)) = nat (1000 * i) := congrArg V.int (by omega)
  refine ⟨.int n, rfl, .inl ⟨_, rfl, ?_⟩⟩
  refine ⟨_, _, rfl, rfl, (by decide : (0 : Int) < 2147483647), nat i, rfl, _, _, rfl, rfl, .inl ⟨by decide, by decide⟩, ?_⟩
  refine ⟨by show 3 ≤ sizeLine; decide, fun p hp => ?_⟩
  refine q p _ (s1.free hp) (s1.trans (sm_new hp _)) ⟨x, y, 1000 * i, ?_, by omega⟩
  rw [upd_same]
  refine congrArg (fun z => some (HO.lst z)) ?_
  show [V.int _, V.int _, V.int _] = _
  rw [← ex, ← ey, ← e3]
  rfl
abbrev nLR : List Str := ["_law_generator_here", "_law_limit", "_law_drawn", "_law_turn"]
theorem scLawRandom : FnScope nLR ["_law_generator_here", "_law_limit"] (defScope sLawRandom) := fnScope_by (by decide +kernel)
def spLawRandom : Sp := fun vs H Q _ => ∃ (g : Addr) (L k : Nat), vs = [.ref g, nat L] ∧ 0 < L ∧ L < 2 ^ 100 ∧ k ≤ 1000000 ∧ GenAt H g k ∧ ∀ (r : Nat) (H' : Hp), r < L → But g H H' → GenAt H' g (k + 10) → Q (nat r) H'
theorem c_law_random (C : Ctx K mg) : Cal P w K mg base 2 "_law_random" spLawRandom [] := by
  refine (fLawRandom C).cal scLawRandom (fun _ _ _ _ _ _ us hl => match us, hl with | [_, _], _ => rfl) (fun vs H Q E h => ?_) (fun cdv A outer s H vs Q E hr h => ?_)
  · obtain ⟨g, L, k, rfl, _⟩ := h
    rfl
  obtain ⟨g, L, k, rfl, hL0, hL, hk, ⟨n, sd, c, hg, hc⟩, q⟩ := h
  have nd := scLawRandom.nd
  refine ⟨_, pss_cons (ps_if (pt_cmpR op_gt (pe_ix ix_list (pv 0) pe_int (fun _ _ => rfl)) pe_int (nomark _))
      (pss_cons (ps_set (i := 2) nd rfl (Or.inl rfl) (pe_op op_mod (pe_callTy call_int1 (by rfl) (b_int C) PyProof.Rows.boot_int (pa_cons (pe_ix ix_list (pv 0) pe_int (fun _ _ => rfl)) pa_nil)) (pv 1)))
      (pss_cons (ps_asg (pe_op op_fdivW (pe_ix ix_list (pv 0) pe_int (fun _ _ => rfl)) (pv 1)) (pg_sub (pv 0) pe_int set_list))
      (pss_one (ps_ret (pv 2))))) pss_nil)
    (pss_cons (ps_set (i := 2) nd rfl (Or.inl rfl) pe_int)
    (pss_cons (ps_for PassesOwn.never rfl (pi_range1 rfl (b_range C) (pa_cons (pe_op op_add pe_int (pe_op op_fdiv (pe_bits (pv 1)) pe_int)) pa_nil)) (pg_name (i := 3) nd rfl (Or.inl rfl))
      (pss_cons (ps_asg (pe_op op_add (pe_ix ix_list (pv 0) pe_int (fun _ _ => rfl)) pe_int) (pg_sub (pv 0) pe_int set_list))
      (pss_one (ps_set (i := 2) nd rfl (Or.inl rfl) (pe_op op_add (pe_op op_mul (pv 2) pe_int) (pe_c (c_law_hash C) hr (by decide) (by rfl) (pa_cons (pe_ix ix_list (pv 0) pe_int (fun _ _ => rfl)) (pa_cons (pe_ix ix_list (pv 0) pe_int (fun _ _ => rfl)) pa_nil))))))))
    (pss_one (ps_ret (pe_op op_mod (pe_callTy call_int1 (by rfl) (b_int C) PyProof.Rows.boot_int (pa_cons (pv 2) pa_nil)) (pv 1)))))), ?_⟩
  refine ⟨.ref g, rfl, g, _, 0, nat n, rfl, rfl, sq hg, rfl, _, _, rfl, rfl, _, rfl, ?_⟩
  have L0 : (0 : Int) < ((L : Nat) : Int) := by omega
  have key : ∀ (d : Nat) (H' : Hp), But g H H' → GenAt H' g (k + 10) → Q (.int (((d : Nat) : Int) % ((L : Nat) : Int))) H' := fun d H' b gg => by
    rw [nat_mod]
    exact q (d % L) H' (Nat.mod_lt _ hL0) b gg
  by_cases hn : 0 < n
  · rw [decide_eq_true (show (0 : Int) < ((n : Nat) : Int) by omega)]
    refine iteT ?_
    refine ⟨.ref g, rfl, g, _, 0, nat n, rfl, rfl, sq hg, rfl, .inl ⟨_, rfl, nat L, rfl, _, _, rfl, rfl, L0, ?_⟩⟩
    refine ⟨.ref g, rfl, g, _, 0, nat n, rfl, rfl, sq hg, rfl, nat L, rfl, _, _, rfl, rfl, wide_div (b := 100) L0 (by omega) (by decide) (by decide), .ref g, rfl, g, _, 0, 0, rfl, rfl, hg, rfl, ?_⟩
    refine ⟨_, rfl, ?_⟩
    refine key n _ ((But.refl _ _).upd _) ⟨n / L, sd, c, ?_, by omega⟩
    rw [upd_same]
    show some (HO.lst [V.int (((n : Nat) : Int) / ((L : Nat) : Int)), nat sd, nat c]) = _
    rw [nat_div]
  · rw [decide_eq_false (show ¬ (0 : Int) < ((n : Nat) : Int) by omega)]
    refine iteF ?_
    have hb : Builtin.Int.intBits ((L : Nat) : Int) ≤ 100 := intBits_le (by omega)
    have hb2 : (1 + ((Builtin.Int.intBits ((L : Nat) : Int) : Nat) : Int) / 30).toNat ≤ 10 := by omega
    refine ⟨nat L, rfl, _, rfl, _, _, rfl, rfl, ⟨by decide, by decide⟩, _, _, rfl, rfl, _, rfl, by omega, by omega, for_range (lo := 0) (fun i σ H' => ∃ (dr : Nat) (v : Option V) (n s c : Nat), σ = [some (.ref g), some (nat L), some (nat dr), v] ∧ But g H H' ∧ H' g = some (.lst [nat n, nat s, nat c]) ∧ c ≤ k + i) ⟨0, none, n, sd, c, rfl, But.refl _ _, hg, hc⟩ (fun i σ H' hi p => ?_) (fun σ H' p => ?_)⟩
    · obtain ⟨dr, v, n, sd, c, rfl, b, hg, hc⟩ := p
      have e1 : V.int (((c : Nat) : Int) + 1) = nat (c + 1) := congrArg V.int (by omega)
      refine ⟨.ref g, rfl, g, _, 2, nat c, rfl, rfl, sq hg, rfl, _, _, rfl, rfl, .ref g, rfl, g, _, 2, 2, rfl, rfl, hg, rfl, ?_⟩
      have b2 : But g H (upd H' g (.lst ([nat n, nat sd, nat c].set 2 (V.int (((c : Nat) : Int) + 1))))) := b.upd _
      have h2 : (upd H' g (.lst ([nat n, nat sd, nat c].set 2 (V.int (((c : Nat) : Int) + 1))))) g = some (.lst [nat n, nat sd, nat (c + 1)]) := by
        rw [upd_same, e1]
        rfl
      generalize upd H' g (.lst ([nat n, nat sd, nat c].set 2 (V.int (((c : Nat) : Int) + 1)))) = H2 at b2 h2
      refine ⟨nat dr, rfl, _, _, rfl, rfl, .inr ⟨by decide, by decide⟩, .ref g, rfl, g, _, 1, nat sd, rfl, rfl, sq h2, rfl, .ref g, rfl, g, _, 2, nat (c + 1), rfl, rfl, sq h2, rfl, sd, c + 1, rfl, by omega, fun m => ?_⟩
      refine ⟨_, _, rfl, rfl, dr * 2147483587 + m, some (.int (0 + ((i : Nat) : Int))), n, sd, c + 1, ?_, b2, h2, by omega⟩
      show [_, _, some (V.int (((dr : Nat) : Int) * 2147483587 + ((m : Nat) : Int))), _] = _
      rw [show ((dr : Nat) : Int) * 2147483587 + ((m : Nat) : Int) = ((dr * 2147483587 + m : Nat) : Int) by omega]
    · obtain ⟨dr, v, n, sd, c, rfl, b, hg, hc⟩ := p
      refine ⟨nat dr, rfl, .inl ⟨_, rfl, nat L, rfl, _, _, rfl, rfl, L0, ?_⟩⟩
      exact key dr H' b ⟨n, sd, c, hg, by omega⟩
end
end Sk
end
section
set_option Elab.async false
set_option linter.all false
set_option maxRecDepth 100000
set_option maxHeartbeats 4000000
namespace Sk
open PySem PySem.Spec PyProof.Rows L2 SX C8
theorem But.mut {g p : Addr} {H H' : Hp} (b : But g H H') (h : H p = none) (o : HO) : But g H (L2.upd H' p o) := fun c u hc n => by
  rw [upd_ne (ne_of_none hc h)]
  exact b c u hc n
theorem But.free {g p : Addr} {H H' : Hp} (b : But g H H') (h : H' p = none) (n : p ≠ g) : H p = none := by
  cases e : H p with
  | none => rfl
  | some o =>
    have := b p o e n
    rw [h] at this
    cases this
theorem GenAt.ne {H : Hp} {g p : Addr} {k : Nat} (h : GenAt H g k) (hp : H p = none) : p ≠ g := by
  obtain ⟨n, s, c, h1, _⟩ := h
  exact (ne_of_none h1 hp).symm
theorem GenAt.keep {H H' : Hp} {g : Addr} {k : Nat} (h : GenAt H g k) (b : But g H H') : Keep H H' := by
  obtain ⟨n, s, c, h1, _⟩ := h
  refine Keep.but b h1 fun z => ?_
  obtain ⟨a, e⟩ := z (nat n) (List.mem_cons_self ..)
  cases e
theorem GenAt.upd {H : Hp} {g p : Addr} {k : Nat} {o : HO} (h : GenAt H g k) (n : p ≠ g) : GenAt (L2.upd H p o) g k := by
  obtain ⟨n', s, c, h1, h2⟩ := h
  exact ⟨n', s, c, by rw [upd_ne n.symm]; exact h1, h2⟩
/-- the drawn pieces -/
def Pcs (L : Tx) (H : Hp) (ts : List Addr) (its : List Pc) : Prop := ts.length = its.length ∧ ∀ (i : Nat) (q : Pc), its[i]? = some q → ∃ a, ts[i]? = some a ∧ H a = some (.tup [q.1, nat q.2.1]) ∧ q.1 = tV q.2.2 ∧ (q.2.2.length ≤ 4 ∧ ∀ c ∈ q.2.2, c ∈ L) ∧ q.2.1 ≤ 10 ^ 29
theorem Pcs.keep {L : Tx} {H H' : Hp} {ts : List Addr} {its : List Pc} (h : Pcs L H ts its) (k : Keep H H') : Pcs L H' ts its :=
  ⟨h.1, fun i q e => let ⟨a, h1, h2, h3⟩ := h.2 i q e; ⟨a, h1, k _ _ h2 trivial, h3⟩⟩
theorem Pcs.upd {L : Tx} {H : Hp} {ts : List Addr} {its : List Pc} {D : Addr} {xs : List V} {o : HO} (h : Pcs L H ts its) (hD : H D = some (.lst xs)) : Pcs L (L2.upd H D o) ts its :=
  ⟨h.1, fun i q e => let ⟨a, h1, h2, h3⟩ := h.2 i q e; ⟨a, h1, by rw [upd_ne (ne_of h2 hD (by intro z; cases z))]; exact h2, h3⟩⟩
theorem Pcs.snoc {L : Tx} {H : Hp} {ts : List Addr} {its : List Pc} {a : Addr} {m : Nat} {t : Tx} (h : Pcs L H ts its) (e : H a = some (.tup [tV t, nat m])) (ht : t.length ≤ 4 ∧ ∀ c ∈ t, c ∈ L) (hm : m ≤ 10 ^ 29) : Pcs L H (ts ++ [a]) (its ++ [(tV t, m, t)]) := by
  refine ⟨by simp [h.1], fun i q hq => ?_⟩
  by_cases hi : i < its.length
  · rw [List.getElem?_append_left hi] at hq
    rw [List.getElem?_append_left (by rw [h.1]; exact hi)]
    exact h.2 i q hq
  · rw [List.getElem?_append_right (by omega)] at hq
    rw [List.getElem?_append_right (by rw [h.1]; omega), h.1]
    generalize i - its.length = j at hq ⊢
    cases j with
    | zero =>
      obtain rfl : (tV t, m, t) = q := Option.some.inj hq
      exact ⟨a, rfl, e, rfl, ht, hm⟩
    | succ j => cases hq
section
variable {P : Program} {w : World} {K : PySem.W.Frag} {mg : Str → Option Value} {base : Heap}
abbrev nLT : List Str := ["_law_generator_here", "_law_letters", "_law_most", "_law_found", "_law_turn"]
theorem scLawText : FnScope nLT ["_law_generator_here", "_law_letters", "_law_most"] (defScope sLawText) := fnScope_by (by decide +kernel)
def spLawText : Sp := fun vs H Q _ => ∃ (g : Addr) (L : Tx) (m k : Nat), vs = [.ref g, tV L, nat m] ∧ Alp L ∧ m ≤ 4 ∧ k ≤ 900000 ∧ GenAt H g k ∧ ∀ (t : Tx) (H' : Hp), t.length ≤ m → (∀ c ∈ t, c ∈ L) → But g H H' → GenAt H' g (k + 50) → Q (tV t) H'
theorem c_law_text (C : Ctx K mg) : Cal P w K mg base 3 "_law_text" spLawText [] := by
  refine (fLawText C).cal scLawText (fun _ _ _ _ _ _ us hl => match us, hl with | [_, _, _], _ => rfl) (fun vs H Q E h => ?_) (fun cdv A outer s H vs Q E hr h => ?_)
  · obtain ⟨g, L, m, k, rfl, _⟩ := h
    rfl
  obtain ⟨g, L, m, k, rfl, hL, hm, hk, hg, q⟩ := h
  have nd := scLawText.nd
  have hLl : L.length ≤ 3 := hL.len
  have hL0 : 0 < L.length := by rcases hL with rfl | rfl <;> decide
  have hz : (S L).length ≤ sizeLine := smallT (by omega)
  have p100 : 100 < 2 ^ 100 := by decide
  refine ⟨_, pss_cons (ps_set (i := 3) nd rfl (Or.inl rfl) pe_str)
    (pss_cons (ps_for PassesOwn.never rfl (pi_range1 rfl (b_range C) (pa_cons (pe_c (c_law_random C) hr (by decide) (by rfl) (pa_cons (pv 0) (pa_cons (pe_op op_add (pv 2) pe_int) pa_nil))) pa_nil)) (pg_name (i := 4) nd rfl (Or.inl rfl))
      (pss_one (ps_set (i := 3) nd rfl (Or.inl rfl) (pe_op op_add_str (pv 3) (pe_ix ix_str (pv 1) (pe_c (c_law_random C) hr (by decide) (by rfl) (pa_cons (pv 0) (pa_cons (pe_callB call_len_str (by rfl) (b_len C) boot_len (pa_cons (pv 1) pa_nil)) pa_nil))) (fun _ _ => rfl))))))
    (pss_one (ps_ret (pv 3)))), ?_⟩
  refine ⟨.ref g, rfl, nat m, rfl, _, _, rfl, rfl, g, m + 1, k, rfl, by omega, by omega, by omega, hg, fun r H1 hr1 b1 g1 => ?_⟩
  refine ⟨_, rfl, by omega, by omega, for_range (lo := 0) (fun i σ H' => ∃ (t : Tx) (v : Option V), σ = [some (.ref g), some (tV L), some (nat m), some (tV t), v] ∧ But g H H' ∧ GenAt H' g (k + 10 + 10 * i) ∧ t.length ≤ i ∧ ∀ c ∈ t, c ∈ L) ⟨[], none, rfl, b1, g1, Nat.le_refl _, fun c h => nomatch h⟩ (fun i σ H' hi p => ?_) (fun σ H' p => ?_)⟩
  · obtain ⟨t, v, rfl, b, gi, ht, hc⟩ := p
    have hi4 : i < 5 := by omega
    refine ⟨tV t, rfl, tV L, rfl, .ref g, rfl, tV L, rfl, S L, rfl, hz, g, L.length, k + 10 + 10 * i, by rw [S_len]; rfl, hL0, by omega, by omega, gi, fun r2 H2 hr2 b2 g2 => ?_⟩
    have hx : L[r2]? = some L[r2] := List.getElem?_eq_getElem hr2
    refine ⟨S L, _, L[r2], rfl, rfl, hz, atI_nat hx, S t, S [L[r2]], rfl, rfl, ?_, ?_⟩
    · rw [S_len, S_len]
      exact small (by simp; omega)
    · exact ⟨t ++ [L[r2]], _, by rw [S_cat]; rfl, b.trans b2, g2.mono (by omega), by rw [List.length_append]; simp; omega, fun c h => by
        rcases List.mem_append.mp h with z | z
        · exact hc c z
        · rw [List.mem_singleton.mp z]
          exact List.getElem_mem hr2⟩
  · obtain ⟨t, v, rfl, b, gi, ht, hc⟩ := p
    exact ⟨_, rfl, q t H' (by omega) hc b (gi.mono (by omega))⟩
theorem scLawTimes : FnScope ["_law_generator_here"] ["_law_generator_here"] (defScope sLawTimes) := fnScope_by (by decide +kernel)
def spLawTimes : Sp := fun vs H Q _ => ∃ (g : Addr) (k : Nat), vs = [.ref g] ∧ k ≤ 900000 ∧ GenAt H g k ∧ ∀ (m : Nat) (H' : Hp), m ≤ 10 ^ 29 → But g H H' → GenAt H' g (k + 30) → Q (nat m) H'
theorem c_law_times (C : Ctx K mg) : Cal P w K mg base 3 "_law_times" spLawTimes [] := by
  refine (fLawTimes C).cal scLawTimes (fun _ _ _ _ _ _ us hl => match us, hl with | [_], _ => rfl) (fun vs H Q E h => ?_) (fun cdv A outer s H vs Q E hr h => ?_)
  · obtain ⟨g, k, rfl, _⟩ := h
    rfl
  obtain ⟨g, k, rfl, hk, hg, q⟩ := h
  refine ⟨_, pss_one (ps_ret (pe_ix ix_list (pe_lst (pa_cons pe_int (pa_cons pe_int (pa_cons pe_int (pa_cons (pe_c (c_law_random C) hr (by decide) (by rfl) (pa_cons (pv 0) (pa_cons pe_int pa_nil)))
      (pa_cons (pe_op op_add pe_int (pe_c (c_law_random C) hr (by decide) (by rfl) (pa_cons (pv 0) (pa_cons (pe_op op_pow pe_int pe_int) pa_nil)))) pa_nil))))))
    (pe_c (c_law_random C) hr (by decide) (by rfl) (pa_cons (pv 0) (pa_cons pe_int pa_nil))) (fun _ _ => rfl))), ?_⟩
  refine ⟨.ref g, rfl, g, 30, k, rfl, by decide, by decide, by omega, hg, fun r1 H1 h1 b1 g1 => ?_⟩
  refine ⟨.ref g, rfl, _, _, rfl, rfl, ⟨by decide, by decide, by decide⟩, g, 10 ^ 29, k + 10, rfl, by decide, by decide, by omega, g1, fun r2 H2 h2 b2 g2 => ?_⟩
  refine ⟨_, _, rfl, rfl, by show 5 ≤ sizeLine; decide, fun p hp => ?_⟩
  have npg := g2.ne hp
  refine ⟨.ref g, rfl, g, 5, k + 20, rfl, by decide, by decide, by omega, g2.upd npg, fun r3 H3 h3 b3 g3 => ?_⟩
  have b := ((b1.trans b2).trans (.of (sm_new hp _))).trans b3
  have hp3 := b3 _ _ upd_same npg
  have e5 : V.int (1 + ((r2 : Nat) : Int)) = nat (1 + r2) := congrArg V.int (by omega)
  have fin : ∀ m : Nat, ([V.int 0, V.int 1, V.int 2, nat r1, V.int (1 + ((r2 : Nat) : Int))])[r3]? = some (nat m) → m ≤ 10 ^ 29 → ∃ p xs i v, V.ref p = .ref p ∧ nat r3 = V.int i ∧ SqL K H3 p xs ∧ atI xs i = some v ∧ Q v H3 := fun m hm h29 =>
    ⟨p, _, _, nat m, rfl, rfl, sq hp3, atI_nat hm, q m H3 h29 b (g3.mono (by omega))⟩
  have p29 : 1000 ≤ 10 ^ 29 := by decide
  rcases (show r3 = 0 ∨ r3 = 1 ∨ r3 = 2 ∨ r3 = 3 ∨ r3 = 4 by omega) with rfl | rfl | rfl | rfl | rfl
  · obtain ⟨_, xs, i, v, _, f⟩ := fin 0 rfl (by omega)
    exact ⟨p, [V.int 0, V.int 1, V.int 2, nat r1, V.int (1 + ((r2 : Nat) : Int))], _, nat 0, rfl, rfl, sq hp3, atI_nat rfl, q 0 H3 (by omega) b (g3.mono (by omega))⟩
  · exact ⟨p, [V.int 0, V.int 1, V.int 2, nat r1, V.int (1 + ((r2 : Nat) : Int))], _, nat 1, rfl, rfl, sq hp3, atI_nat rfl, q 1 H3 (by omega) b (g3.mono (by omega))⟩
  · exact ⟨p, [V.int 0, V.int 1, V.int 2, nat r1, V.int (1 + ((r2 : Nat) : Int))], _, nat 2, rfl, rfl, sq hp3, atI_nat rfl, q 2 H3 (by omega) b (g3.mono (by omega))⟩
  · exact ⟨p, [V.int 0, V.int 1, V.int 2, nat r1, V.int (1 + ((r2 : Nat) : Int))], _, nat r1, rfl, rfl, sq hp3, atI_nat rfl, q r1 H3 (by omega) b (g3.mono (by omega))⟩
  · exact ⟨p, [V.int 0, V.int 1, V.int 2, nat r1, V.int (1 + ((r2 : Nat) : Int))], _, nat (1 + r2), rfl, rfl, sq hp3, atI_nat (by rw [← e5]; rfl), q (1 + r2) H3 (by omega) b (g3.mono (by omega))⟩
end
end Sk
end
section
set_option Elab.async false
set_option linter.all false
set_option maxRecDepth 100000
set_option maxHeartbeats 4000000
namespace Sk
open PySem PySem.Spec PyProof.Rows L2 SX C8
section
variable {P : Program} {w : World} {K : PySem.W.Frag} {mg : Str → Option Value} {base : Heap}
abbrev nLP : List Str := ["_law_generator_here", "_law_letters", "_law_found", "_law_turn"]
theorem scLawPieces : FnScope nLP ["_law_generator_here", "_law_letters"] (defScope sLawPieces) := fnScope_by (by decide +kernel)
def spLawPieces : Sp := fun vs H Q _ => ∃ (g : Addr) (L : Tx) (k : Nat), vs = [.ref g, tV L] ∧ Alp L ∧ k ≤ 800000 ∧ GenAt H g k ∧
  ∀ (D : Addr) (ts : List Addr) (its : List Pc) (H' : Hp), H D = none → But g H H' → GenAt H' g (k + 400) → H' D = some (.lst (ts.map V.ref)) → Pcs L H' ts its → its.length ≤ 4 → Q (.ref D) H'
theorem c_law_pieces (C : Ctx K mg) : Cal P w K mg base 4 "_law_pieces" spLawPieces [] := by
  refine (fLawPieces C).cal scLawPieces (fun _ _ _ _ _ _ us hl => match us, hl with | [_, _], _ => rfl) (fun vs H Q E h => ?_) (fun cdv A outer s H vs Q E hr h => ?_)
  · obtain ⟨g, L, k, rfl, _⟩ := h
    rfl
  obtain ⟨g, L, k, rfl, hL, hk, hg, q⟩ := h
  have nd := scLawPieces.nd
  refine ⟨_, pss_cons (ps_set (i := 2) nd rfl (Or.inl rfl) (pe_lst pa_nil))
    (pss_cons (ps_for PassesOwn.never rfl (pi_range1 rfl (b_range C) (pa_cons (pe_op op_add pe_int (pe_c (c_law_random C) hr (by decide) (by rfl) (pa_cons (pv 0) (pa_cons pe_int pa_nil)))) pa_nil)) (pg_name (i := 3) nd rfl (Or.inl rfl))
      (pss_one (ps_expr (pe_bm PySem.F.plainAttrs_list PySem.F.slot_list_append PySem.F.type_list_append mt_append (pv 2) (pa_cons (pe_tup (pa_cons (pe_c (c_law_text C) hr (by decide) (by rfl) (pa_cons (pv 0) (pa_cons (pv 1) (pa_cons pe_int pa_nil)))) (pa_cons (pe_c (c_law_times C) hr (by decide) (by rfl) (pa_cons (pv 0) pa_nil)) pa_nil))) pa_nil)))))
    (pss_one (ps_ret (pv 2)))), ?_⟩
  refine ⟨Nat.zero_le _, fun D hD => ?_⟩
  have nDg := hg.ne hD
  refine ⟨.ref g, rfl, g, 4, k, rfl, by decide, by decide, by omega, hg.upd nDg, fun r H1 h1 b1 g1 => ?_⟩
  have bD : But g H H1 := (But.of (sm_new hD _)).trans b1
  refine ⟨_, _, rfl, rfl, _, rfl, by omega, by omega, for_range (lo := 0) (fun i σ H' => ∃ (v : Option V) (ts : List Addr) (its : List Pc), σ = [some (.ref g), some (tV L), some (.ref D), v] ∧ But g H H' ∧ GenAt H' g (k + 10 + 80 * i) ∧ H' D = some (.lst (ts.map V.ref)) ∧ Pcs L H' ts its ∧ its.length = i) ⟨none, [], [], rfl, bD, g1, b1 _ _ upd_same nDg, ⟨rfl, fun i q e => by simp at e⟩, rfl⟩ (fun i σ H' hi p => ?_) (fun σ H' p => ?_)⟩
  · obtain ⟨v, ts, its, rfl, b, gi, hDi, hp, hl⟩ := p
    have hi5 : i < 5 := by omega
    refine ⟨.ref D, rfl, .inl ⟨rfl, _, sq hDi⟩, .ref g, rfl, tV L, rfl, g, L, 4, k + 10 + 80 * i, rfl, hL, by omega, by omega, gi, fun t H2 ht hc b2 g2 => ?_⟩
    refine ⟨.ref g, rfl, g, k + 10 + 80 * i + 50, rfl, by omega, g2, fun m H3 hm b3 g3 => ?_⟩
    refine ⟨by show 2 ≤ sizeLine; decide, fun T hT => ?_⟩
    have b23 := b2.trans b3
    have kp := (gi.keep b23).trans (.of (sm_new hT (.tup [tV t, nat m])))
    have nTg := g3.ne hT
    have hD3 := b23 _ _ hDi nDg
    have nTD : T ≠ D := (ne_of_none hD3 hT).symm
    have hDT : (upd H3 T (.tup [tV t, nat m])) D = some (.lst (ts.map V.ref)) := sm_new hT _ _ _ hD3
    refine ⟨D, _, _, rfl, rfl, hDT, by rw [List.length_map, hp.1, hl]; exact small1000 (by omega), ?_⟩
    refine ⟨some (.int (0 + ((i : Nat) : Int))), ts ++ [T], its ++ [(tV t, m, t)], rfl, ((b.trans b23).trans (.of (sm_new hT _))).mut hD _, ?_, ?_, ?_, by rw [List.length_append, hl]; rfl⟩
    · exact ((g3.upd nTg).upd nDg).mono (by omega)
    · rw [upd_same, List.map_append]
      rfl
    · exact ((hp.keep kp).snoc upd_same ⟨ht, hc⟩ hm).upd hDT
  · obtain ⟨v, ts, its, rfl, b, gi, hDi, hp, hl⟩ := p
    exact ⟨.ref D, rfl, q D ts its H' hD b (gi.mono (by omega)) hDi hp (by omega)⟩
abbrev nLC : List Str := ["_law_word", "_law_text_here", "_law_found", "_law_letter", "_law_at"]
theorem scLawCount : FnScope nLC ["_law_word", "_law_text_here"] (defScope sLawCount) := fnScope_by (by decide +kernel)
def spLawCount : Sp := fun vs H Q _ => ∃ (w t : Tx), vs = [tV w, tV t] ∧ w.length ≤ 3 ∧ RV (nat (cnt w t)) H Q
theorem c_law_count (C : Ctx K mg) : Cal P w K mg base 1 "_law_count" spLawCount [] := by
  refine (fLawCount C).cal scLawCount (fun _ _ _ _ _ _ us hl => match us, hl with | [_, _], _ => rfl) (fun vs H Q E h => ?_) (fun cdv A outer s H vs Q E hr h => ?_)
  · obtain ⟨w, t, rfl, _⟩ := h
    rfl
  obtain ⟨w, t, rfl, hw, q⟩ := h
  have nd := scLawCount.nd
  refine ⟨_, pss_cons (ps_set (i := 2) nd rfl (Or.inl rfl) (pe_op op_cat (pe_lst (pa_cons pe_int pa_nil)) (pe_op op_rep (pe_lst (pa_cons pe_int pa_nil)) (pe_callB call_len_str (by rfl) (b_len C) boot_len (pa_cons (pv 0) pa_nil)))))
    (pss_cons (ps_for PassesOwn.never rfl (pi_str (pv 1)) (pg_name (i := 3) nd rfl (Or.inl rfl))
      (pss_one (ps_for PassesOwn.never rfl (pi_range3 rfl (b_range C) (pa_cons (pe_callB call_len_str (by rfl) (b_len C) boot_len (pa_cons (pv 0) pa_nil)) (pa_cons pe_int (pa_cons (pe_un un_neg pe_int) pa_nil)))) (pg_name (i := 4) nd rfl (Or.inl rfl))
        (pss_one (ps_if (pt_cmpR op_eq (pe_ix ix_str (pv 0) (pe_op op_sub (pv 4) pe_int) (fun _ _ => rfl)) (pv 3) (nomark _))
          (pss_one (ps_asg (pe_op op_add (pe_ix ix_list (pv 2) (pv 4) (fun _ _ => rfl)) (pe_ix ix_list (pv 2) (pe_op op_sub (pv 4) pe_int) (fun _ _ => rfl))) (pg_sub (pv 2) (pv 4) set_list)))
          pss_nil)))))
    (pss_one (ps_ret (pe_ix ix_list (pv 2) (pe_callB call_len_str (by rfl) (b_len C) boot_len (pa_cons (pv 0) pa_nil)) (fun _ _ => rfl))))), ?_⟩
  refine ⟨by show 1 ≤ sizeLine; decide, fun p1 h1 => ?_⟩
  have s1 := sm_new h1 (.lst [V.int 1])
  refine ⟨by show 1 ≤ sizeLine; decide, fun p2 h2 => ?_⟩
  have s2 := sm_new h2 (.lst [V.int 0])
  refine ⟨tV w, rfl, S w, rfl, smallT (by omega), p2, _, _, rfl, rfl, upd_same, by rw [S_len]; omega, by rw [S_len]; omega, by rw [S_len]; exact small (by show 1 * _ ≤ _; omega), fun p3 h3 => ?_⟩
  have s3 := sm_new h3 (.lst (List.replicate (((S w).length : Nat) : Int).toNat [V.int 0]).flatten)
  have e3 : (List.replicate (((S w).length : Nat) : Int).toNat [V.int 0]).flatten = List.replicate w.length (V.int 0) := by
    rw [List.flatten_replicate_singleton, S_len]
    rfl
  refine ⟨p1, p3, _, _, rfl, rfl, s3 _ _ (s2 _ _ upd_same), upd_same, by rw [e3]; exact small (by simp; omega), fun D hD => ?_⟩
  have s4 := sm_new hD (.lst ([V.int 1] ++ (List.replicate (((S w).length : Nat) : Int).toNat [V.int 0]).flatten))
  have sA := (s1.trans s2).trans s3
  have hD0 : H D = none := sA.free hD
  generalize hf : (fun u : Tx => one u) = f0
  refine ⟨tV t, rfl, S t, rfl, for_go walk_str (fun i σ H' => ∃ v4 v5 : Option V, σ = [some (tV w), some (tV t), some (.ref D), v4, v5] ∧ Same H H' ∧ H' D = some (.lst (nV (rowOf w 0 (conv one (cn (t.take i))))))) ⟨none, none, rfl, sA.trans s4, ?_⟩ (fun _ _ _ _ _ => trivial) (fun i x σ H2 H3 hi p y => ?_) (fun σ H' p => ?_)⟩
  · rw [upd_same, e3, List.take_zero, show cn [] = one from funext cnt_nil_text, funext (conv_one one), row_unit]
  · obtain ⟨v4, v5, rfl, sm, hDi⟩ := p
    obtain ⟨rfl, b, hb, rfl⟩ := y
    have htb : t[i]? = some b := by
      have : (S t).cps.toList[i]? = some b := by rw [← hb, Array.getElem?_toList]
      exact this
    have etk : cn (t.take (i + 1)) = conv (cn (t.take i)) (cn [b]) := by
      rw [List.take_add_one, htb]
      exact funext (cnt_app _ _)
    have eg : conv one (cn (t.take (i + 1))) = conv (conv one (cn (t.take i))) (cn [b]) := by
      rw [etk]
      exact (funext (conv_assoc _ _ _)).symm
    generalize hF : conv one (cn (t.take i)) = F at hDi eg
    rw [eg]
    refine ⟨tV w, rfl, S w, rfl, smallT (by omega), 1, rfl, _, _, -1, _, rfl, RgC.neg (by rw [S_len]; omega) (by rw [S_len]; omega) (by decide) (by decide), for_go walk_rangeC (fun j σ H' => ∃ v5 : Option V, σ = [some (tV w), some (tV t), some (.ref D), some (.str ⟨#[b]⟩), v5] ∧ Same H H' ∧ H' D = some (.lst (nV (half w 0 F (conv F (cn [b])) (w.length - j))))) ⟨v5, rfl, sm, by rw [hDi, Nat.sub_zero, half_top]⟩ (fun _ _ _ _ _ => trivial) (fun j x σ H4 H5 hj p y => ?_) (fun σ H' p => ?_)⟩
    · obtain ⟨v5, rfl, sm', hDj⟩ := p
      obtain ⟨rfl, hx⟩ := y
      rw [S_len] at hx hj
      generalize hk : w.length - (j + 1) = k
      have ek : w.length - j = k + 1 := by omega
      rw [ek] at hDj
      have ev : ((w.length : Nat) : Int) + ((j : Nat) : Int) * -1 = ((k + 1 : Nat) : Int) := by omega
      replace hx : x = V.int ((k + 1 : Nat) : Int) := hx.trans (congrArg V.int ev)
      subst hx
      have hkl : k < w.length := by omega
      obtain ⟨c, hc⟩ : ∃ c, w[k]? = some c := ⟨w[k], List.getElem?_eq_getElem hkl⟩
      have hc' : (S w).cps.toList[k]? = some c := hc
      have e1 : ((k + 1 : Nat) : Int) - 1 = ((k : Nat) : Int) := by omega
      refine ⟨tV w, rfl, .int ((k + 1 : Nat) : Int), rfl, _, _, rfl, rfl, S w, _, c, rfl, rfl, smallT (by omega), by rw [e1]; exact atI_nat hc', .str ⟨#[b]⟩, rfl, rfl, _, rfl, ?_⟩
      by_cases ecb : c = b
      · subst ecb
        rw [decide_eq_true rfl]
        refine iteT ?_
        have g1 := get_nV (half_get (w := w) (s := 0) (f := F) (g := conv F (cn [c])) (m := k + 1) (e := k + 1) (by omega))
        have g0 := get_nV (half_get (w := w) (s := 0) (f := F) (g := conv F (cn [c])) (m := k + 1) (e := k) (by omega))
        rw [if_neg (by omega)] at g1 g0
        refine ⟨.ref D, rfl, .int ((k + 1 : Nat) : Int), rfl, D, _, _, _, rfl, rfl, sq hDj, atI_nat g1, .ref D, rfl, .int ((k + 1 : Nat) : Int), rfl, _, _, rfl, rfl, D, _, _, _, rfl, rfl, sq hDj, by rw [e1]; exact atI_nat g0, _, _, rfl, rfl, ?_⟩
        refine ⟨.ref D, rfl, .int ((k + 1 : Nat) : Int), rfl, D, _, _, _, rfl, rfl, hDj, ixN_nat (by rw [List.length_map, half_len]; omega), _, rfl, sm'.mut hD0 _, ?_⟩
        rw [upd_same]
        have hl := sl_letter (s := 0) (b := c) F hc
        rw [if_pos rfl] at hl
        rw [← half_set hkl, hl, ← nV_set]
        exact congrArg (fun z => some (HO.lst ((nV (half w 0 F (conv F (cn [c])) (k + 1))).set (k + 1) (V.int z)))) (Int.natCast_add _ _).symm
      · rw [decide_eq_false (show ¬ V.str (⟨#[c]⟩ : Str) = V.str ⟨#[b]⟩ from fun z => ecb (by
            have : S [c] = S [b] := V.str.inj z
            have := S_inj this
            injection this))]
        refine iteF ⟨_, rfl, sm', ?_⟩
        have hl := sl_letter (s := 0) (b := b) F hc
        rw [if_neg ecb] at hl
        rw [hDj, half_same hl.symm]
    · obtain ⟨v5, rfl, sm', hDj⟩ := p
      refine ⟨_, v5, rfl, sm', ?_⟩
      rw [hDj, S_len, show w.length - ((((w.length : Nat) : Int) - 0).toNat) = 0 by omega, half_zero (sl_letter0 F).symm]
  · obtain ⟨v4, v5, rfl, sm, hDi⟩ := p
    have e : (S t).cps.size = t.length := S_len t
    rw [e, List.take_length] at hDi
    refine ⟨.ref D, rfl, tV w, rfl, S w, rfl, smallT (by omega), D, _, _, nat (cnt w t), rfl, rfl, sq hDi, by rw [S_len]; exact atI_nat (by rw [get_nV (rowOf_get (Nat.le_refl _)), sl_all, one_conv]; rfl), q H' sm⟩
end
end Sk
end
section
set_option autoImplicit false
set_option linter.all false
namespace Sk
theorem rep_add (t : Tx) (a b : Nat) : rep t (a + b) = rep t a ++ rep t b := by
  unfold rep
  rw [← List.replicate_append_replicate, List.flatten_append]
theorem rep_mono (t : Tx) {a b : Nat} (h : a ≤ b) : (rep t a).Sublist (rep t b) := by
  obtain ⟨k, rfl⟩ := Nat.exists_eq_add_of_le h
  rw [rep_add]
  exact List.sublist_append_left _ _
theorem rep_cons (t : Tx) (n : Nat) : rep t (n + 1) = t ++ rep t n := by
  unfold rep
  rw [List.replicate_succ, List.flatten_cons]
theorem rep_enough (p : Tx) : ∀ (n : Nat) (w : Tx), w.Sublist (rep p n) → w.Sublist (rep p w.length)
  | 0, w, h => by
    have : w = [] := List.sublist_nil.mp h
    subst this
    exact List.Sublist.refl _
  | n + 1, w, h => by
    rw [rep_cons, List.sublist_append_iff] at h
    obtain ⟨u, v, rfl, hu, hv⟩ := h
    have ih := rep_enough p n v hv
    rcases u with _ | ⟨a, u⟩
    · exact ih
    · refine List.Sublist.trans ?_ (rep_mono p (show v.length + 1 ≤ _ by simp))
      rw [rep_cons]
      exact List.Sublist.append hu ih
theorem rep_alike (p : Tx) {d n m : Nat} (hn : d ≤ n) (hm : d ≤ m) : Alike d (rep p n) (rep p m) := fun w hw =>
  ⟨fun h => (rep_enough p n w h).trans (rep_mono p (by omega)), fun h => (rep_enough p m w h).trans (rep_mono p (by omega))⟩
theorem rep_min (p : Tx) {d : Nat} (n : Nat) {m : Nat} (h : d ≤ m) : Alike d (rep p (min n m)) (rep p n) := by
  by_cases e : n ≤ m
  · rw [Nat.min_eq_left e]
    exact Alike.refl _ _
  · exact rep_alike p (by omega) (by omega)
theorem rep_congr {d : Nat} {u v : Tx} (h : Alike d u v) : ∀ n, Alike d (rep u n) (rep v n)
  | 0 => Alike.refl _ _
  | n + 1 => by
    rw [rep_cons, rep_cons]
    exact h.append (rep_congr h n)
theorem rep_sub {u v : Tx} (h : u.Sublist v) : ∀ n, (rep u n).Sublist (rep v n)
  | 0 => List.Sublist.refl _
  | n + 1 => by
    rw [rep_cons, rep_cons]
    exact List.Sublist.append h (rep_sub h n)
/-- every copy at most so many times -/
def cutT (its : List Pc) (m : Nat) : Tx := (its.map fun q => rep q.2.2 (min q.2.1 m)).flatten
theorem cutT_cons (q : Pc) (its : List Pc) (m : Nat) : cutT (q :: its) m = rep q.2.2 (min q.2.1 m) ++ cutT its m := rfl
theorem whole_cons (q : Pc) (its : List Pc) : whole (q :: its) = rep q.2.2 q.2.1 ++ whole its := rfl
theorem cutT_alike {d m : Nat} (h : d ≤ m) : ∀ its : List Pc, Alike d (cutT its m) (whole its)
  | [] => Alike.refl _ _
  | q :: its => by
    rw [cutT_cons, whole_cons]
    exact (rep_min _ _ h).append (cutT_alike h its)
theorem cutT_sub (m : Nat) : ∀ its : List Pc, (cutT its m).Sublist (whole its)
  | [] => List.Sublist.refl _
  | q :: its => by
    rw [cutT_cons, whole_cons]
    exact List.Sublist.append (rep_mono _ (Nat.min_le_left _ _)) (cutT_sub m its)
theorem cutT_len {m : Nat} : ∀ its : List Pc, (∀ q ∈ its, q.2.2.length ≤ 4) → (cutT its m).length ≤ its.length * (4 * m)
  | [], _ => Nat.zero_le _
  | q :: its, h => by
    rw [cutT_cons, List.length_append, rep_len, List.length_cons, Nat.add_mul]
    have h1 := cutT_len (m := m) its fun r hr => h r (List.mem_cons_of_mem _ hr)
    have h2 : min q.2.1 m * q.2.2.length ≤ m * 4 := Nat.mul_le_mul (Nat.min_le_right _ _) (h q (List.mem_cons_self ..))
    omega
theorem cutT_mem {m c : Nat} : ∀ its : List Pc, c ∈ cutT its m → ∃ q ∈ its, c ∈ q.2.2
  | [], h => nomatch h
  | q :: its, h => by
    rw [cutT_cons, List.mem_append] at h
    rcases h with h | h
    · exact ⟨q, List.mem_cons_self .., rep_mem h⟩
    · obtain ⟨r, h1, h2⟩ := cutT_mem its h
      exact ⟨r, List.mem_cons_of_mem _ h1, h2⟩
theorem cutT_snoc {its : List Pc} {i : Nat} {q : Pc} (h : its[i]? = some q) (m : Nat) : cutT (its.take (i + 1)) m = cutT (its.take i) m ++ rep q.2.2 (min q.2.1 m) := by
  rw [List.take_add_one, h, cutT, List.map_append, List.flatten_append]
  unfold cutT
  simp
/-- the cut of all, the outer copies too -/
def cutO (its : List Pc) (o m : Nat) : Tx := rep (cutT its m) (min o m)
theorem cutO_alike {d m : Nat} (h : d ≤ m) (its : List Pc) (o : Nat) : Alike d (cutO its o m) (rep (whole its) o) :=
  (rep_min _ _ h).trans (rep_congr (cutT_alike h its) o)
theorem cutO_sub (its : List Pc) (o m : Nat) : (cutO its o m).Sublist (rep (whole its) o) := (rep_mono _ (Nat.min_le_left _ _)).trans (rep_sub (cutT_sub m its) o)
theorem cutO_len {m : Nat} {its : List Pc} (o : Nat) (h : ∀ q ∈ its, q.2.2.length ≤ 4) (h4 : its.length ≤ 4) (hm : m ≤ 4) : (cutO its o m).length ≤ 256 := by
  rw [cutO, rep_len]
  have h1 := cutT_len (m := m) its h
  have h2 : its.length * (4 * m) ≤ 4 * (4 * 4) := Nat.mul_le_mul h4 (by omega)
  have h3 : min o m * (cutT its m).length ≤ 4 * 64 := Nat.mul_le_mul (by omega) (by omega)
  omega
theorem cutO_mem {o m c : Nat} {its : List Pc} (h : c ∈ cutO its o m) : ∃ q ∈ its, c ∈ q.2.2 := cutT_mem its (rep_mem h)
/-- which words are read -/
theorem read_of_alike {L : Tx} {d e : Nat} {u v : Tx} (h : Alike e u v) (hd : d ≤ e) : (wordsTo L (d + 1)).filter (isRead u) = (wordsTo L (d + 1)).filter (isRead v) := by
  refine List.filter_congr fun w hw => ?_
  have h1 := (mem_wordsTo.mp hw).1
  rw [Bool.eq_iff_iff, isRead_iff, isRead_iff]
  exact h w (by omega)
theorem alike_of_read {L : Tx} {d : Nat} {u v : Tx} (hu : ∀ c ∈ u, c ∈ L) (hv : ∀ c ∈ v, c ∈ L) (h : (wordsTo L (d + 1)).filter (isRead u) = (wordsTo L (d + 1)).filter (isRead v)) : Alike d u v := by
  have key : ∀ {u v : Tx}, (∀ c ∈ u, c ∈ L) → (wordsTo L (d + 1)).filter (isRead u) = (wordsTo L (d + 1)).filter (isRead v) → ∀ w : Tx, w.length ≤ d → w.Sublist u → w.Sublist v := by
    intro u v hu h w hw hs
    have h1 : w ∈ (wordsTo L (d + 1)).filter (isRead u) := List.mem_filter.mpr ⟨mem_wordsTo.mpr ⟨by omega, fun c hc => hu c (hs.subset hc)⟩, isRead_iff.mpr hs⟩
    rw [h] at h1
    exact isRead_iff.mp (List.mem_filter.mp h1).2
  exact fun w hw => ⟨key hu h w hw, key hv h.symm w hw⟩
theorem cnt_read (ws : List Tx) (t : Tx) : (ws.filter fun w => decide (0 < cnt w t)) = ws.filter (isRead t) := by
  refine List.filter_congr fun w _ => ?_
  rw [Bool.eq_iff_iff, isRead_iff, decide_eq_true_iff]
  exact cnt_pos t w
/-- steady -/
theorem far_alike (h p t : Tx) {d n m : Nat} (hn : d ≤ n) (hm : d ≤ m) : Alike d (far h p t n) (far h p t m) := ((Alike.refl _ h).append (rep_alike p hn hm)).append (Alike.refl _ t)
theorem Steady.upto {d m : Nat} {h p t : Tx} (s : Steady d h p t m) {j : Nat} (h1 : m ≤ j) : Alike d (far h p t j) (far h p t (d + 1)) := by
  by_cases e : j ≤ d
  · exact (s.on j h1 e).trans (far_alike h p t (Nat.le_refl _) (by omega))
  · exact far_alike h p t (by omega) (by omega)
theorem Steady.not {d m : Nat} {h p t : Tx} (s : Steady d h p t m) (h0 : m ≠ 0) : ¬ Alike d (far h p t (m - 1)) (far h p t (d + 1)) := fun a => s.off.elim h0 fun n => n (a.trans (far_alike h p t (by omega) (Nat.le_refl _)))
theorem far_len {h p t : Tx} {n : Nat} (h1 : h.length ≤ 4) (h2 : p.length ≤ 4) (h3 : t.length ≤ 4) (hn : n ≤ 4) : (far h p t n).length ≤ 24 := by
  unfold far
  rw [List.length_append, List.length_append, rep_len]
  have : n * p.length ≤ 4 * 4 := Nat.mul_le_mul hn h2
  omega
theorem far_mem {h p t : Tx} {n c : Nat} (hc : c ∈ far h p t n) : c ∈ h ∨ c ∈ p ∨ c ∈ t := by
  unfold far at hc
  rcases List.mem_append.mp hc with z | z
  · rcases List.mem_append.mp z with z | z
    · exact .inl z
    · exact .inr (.inl (rep_mem z))
  · exact .inr (.inr z)
/-- the two at the end -/
theorem steady_two {m : Nat} (s : Steady 2 [97, 97] [97, 98] [98, 98] m) : m = 2 := by
  have h0 : ¬ (m ≤ 0) := fun z => absurd ((s.on 0 z (by decide) [98, 97] (by decide)).mpr (by decide)) (by decide)
  have h1 : ¬ (m ≤ 1) := fun z => absurd ((s.on 1 z (by decide) [98, 97] (by decide)).mpr (by decide)) (by decide)
  have := s.le
  omega
theorem form_abba {l : Tx} (h : IsForm 2 [97, 98, 98, 97] l) : l = [97, 98, 97, 98] := by
  have a : Alike 2 [97, 98, 98, 97] [97, 98, 97, 98] := swap_alike (k := 2) (p := [97, 98]) (s := []) (c := 98) (e := 97) (by decide) (by decide) (by decide)
  refine only (h.al.symm.trans a) h.red ?_ h.ord ?_
  · intro p c s e
    rcases p with _ | ⟨p0, _ | ⟨p1, _ | ⟨p2, _ | ⟨p3, p⟩⟩⟩⟩ <;> simp only [List.nil_append, List.cons_append, List.cons.injEq] at e
    · obtain ⟨rfl, rfl⟩ := e; decide
    · obtain ⟨rfl, rfl, rfl⟩ := e; decide
    · obtain ⟨rfl, rfl, rfl, rfl⟩ := e; decide
    · obtain ⟨rfl, rfl, rfl, rfl, rfl⟩ := e; decide
    · obtain ⟨_, _, _, _, e⟩ := e
      simp at e
  · intro p c d s e
    rcases p with _ | ⟨p0, _ | ⟨p1, _ | ⟨p2, p⟩⟩⟩ <;> simp only [List.nil_append, List.cons_append, List.cons.injEq] at e
    · obtain ⟨rfl, rfl, rfl⟩ := e; decide
    · obtain ⟨rfl, rfl, rfl, rfl⟩ := e; decide
    · obtain ⟨rfl, rfl, rfl, rfl, rfl⟩ := e; decide
    · obtain ⟨_, _, _, e⟩ := e
      rcases p with _ | ⟨p3, p⟩ <;> simp at e
end Sk
end
section
set_option Elab.async false
set_option linter.all false
set_option maxRecDepth 100000
set_option maxHeartbeats 4000000
namespace Sk
open PySem PySem.Spec PyProof.Rows L2 SX C8
/-- a list comprehension that picks -/
theorem lc_pick {α : Type} {J : It} {n : Nat} {G : Hp → Prop} {Y : Nat → Hp → V → Hp → Prop} (w : Walk J n G Y) {ks : List α} (hn : ks.length = n) (hz : n ≤ 1000) {f : α → V} {pk : α → Bool} {g : TG} {tt : TT} {te : TE} {vs : List Nat} {σ : L2.St} {H0 : Hp} {D : Addr} {Qd : Hp → Prop} (hD : H0 D = none) (hG : ∀ H1, Same H0 H1 → G H1)
    (hs : ∀ i a x H1 H2, ks[i]? = some a → i < n → Same H0 H1 → Y i H1 x H2 → Same H1 H2 ∧ ∀ (R : VK) (E : Hp → Prop), (pk a = true → ∀ H3, Same H2 H3 → R (f a) H3) → (pk a = false → ∀ H3, Same H2 H3 → E H3) → g x (wipe σ vs) H2 fun σ2 H3 => wipe σ2 vs = wipe σ vs ∧ tt σ2 H3 fun b H4 => if b = true then te σ2 H4 R else E H4)
    (hd : ∀ H', Same H0 H' → H' D = some (.lst ((ks.filter pk).map f)) → Qd H') :
    ∃ W : Nat → Nat → Hp → Prop, (∃ m, W 0 m (upd H0 D (.lst []))) ∧ ∀ i m H, W i m H → (J.stop i H ∧ Qd H) ∨ (J.go i H ∧ ∃ Nx : Hp → Prop, (∀ H', Nx H' → ∃ m', m' < m ∧ W (i + 1) m' H') ∧ ∀ x H', J.yld i H x H' →
      g x (wipe σ vs) H' fun σ2 H2 => wipe σ2 vs = wipe σ vs ∧ tt σ2 H2 fun b H3 => if b = true then te σ2 H3 fun y H4 => ∃ acc, H4 D = some (.lst acc) ∧ acc.length < sizeLine ∧ Nx (upd H4 D (.lst (acc ++ [y]))) else Nx H3) := by
  refine it_go w (Body := fun x H' Nx => g x (wipe σ vs) H' fun σ2 H2 => wipe σ2 vs = wipe σ vs ∧ tt σ2 H2 fun b H3 => if b = true then te σ2 H3 fun y H4 => ∃ acc, H4 D = some (.lst acc) ∧ acc.length < sizeLine ∧ Nx (upd H4 D (.lst (acc ++ [y]))) else Nx H3)
    (fun i H1 => Same H0 H1 ∧ H1 D = some (.lst (((ks.take i).filter pk).map f))) ⟨sm_new hD _, upd_same⟩ (fun i H1 _ p => hG H1 p.1) (fun i x H1 H2 hi p y => ?_) (fun H1 p => hd H1 p.1 (by rw [p.2, ← hn, List.take_length]))
  have hx : ks[i]? = some ks[i] := List.getElem?_eq_getElem (by omega)
  have et : ks.take (i + 1) = ks.take i ++ [ks[i]] := by rw [List.take_add_one, hx]; rfl
  obtain ⟨s1, hb⟩ := hs i ks[i] x H1 H2 hx hi p.1 y
  refine hb _ _ (fun hp H3 s3 => ⟨_, s3 _ _ (s1 _ _ p.2), ?_, ((p.1.trans s1).trans s3).mut hD _, ?_⟩) fun hp H3 s3 => ⟨(p.1.trans s1).trans s3, ?_⟩
  · rw [List.length_map]
    have := List.length_filter_le pk (ks.take i)
    rw [List.length_take] at this
    exact small1000 (by omega)
  · rw [upd_same, et, List.filter_append, List.map_append, List.filter_cons, if_pos hp]
    rfl
  · rw [s3 _ _ (s1 _ _ p.2), et, List.filter_append, List.filter_cons, if_neg (by rw [hp]; decide)]
    simp
section
variable {P : Program} {w : World} {K : PySem.W.Frag} {mg : Str → Option Value} {base : Heap}
theorem Pcs.get {L : Tx} {H : Hp} {ts : List Addr} {its : List Pc} (h : Pcs L H ts its) {i : Nat} {x : V} (e : (ts.map V.ref)[i]? = some x) : ∃ (a : Addr) (m : Nat) (t : Tx), x = .ref a ∧ its[i]? = some (tV t, m, t) ∧ H a = some (.tup [tV t, nat m]) ∧ (t.length ≤ 4 ∧ ∀ c ∈ t, c ∈ L) ∧ m ≤ 10 ^ 29 := by
  obtain ⟨a, ha, rfl⟩ := get_map e
  have hi : i < its.length := by
    have := (List.getElem?_eq_some_iff.mp ha).1
    rw [h.1] at this
    exact this
  obtain ⟨b, h1, h2, h3, h4, h5⟩ := h.2 i its[i] (List.getElem?_eq_getElem hi)
  rw [ha] at h1
  obtain rfl := Option.some.inj h1
  have hq : its[i]? = some its[i] := List.getElem?_eq_getElem hi
  generalize its[i] = q at *
  obtain ⟨v, m, t⟩ := q
  obtain rfl : v = tV t := h3
  exact ⟨a, m, t, rfl, hq, h2, h4, h5⟩
theorem Pcs.each {L : Tx} {H : Hp} {ts : List Addr} {its : List Pc} (h : Pcs L H ts its) : ∀ q ∈ its, q.2.2.length ≤ 4 ∧ ∀ c ∈ q.2.2, c ∈ L := fun q hq => by
  obtain ⟨i, hi⟩ := List.mem_iff_getElem?.mp hq
  obtain ⟨a, _, _, _, h4, _⟩ := h.2 i q hi
  exact h4
theorem int_min (n m : Nat) : V.int (if ((m : Nat) : Int) < ((n : Nat) : Int) then ((m : Nat) : Int) else ((n : Nat) : Int)) = nat (min n m) := by
  refine congrArg V.int ?_
  split <;> omega
abbrev nCut : List Str := ["_law_pieces_here", "_law_most", "_law_found", "_law_part", "_law_many"]
theorem scLawCut : FnScope nCut ["_law_pieces_here", "_law_most"] (defScope sLawCut) := fnScope_by (by decide +kernel)
def spLawCut : Sp := fun vs H Q _ => ∃ (D : Addr) (L : Tx) (m : Nat) (ts : List Addr) (its : List Pc), vs = [.ref D, nat m] ∧ H D = some (.lst (ts.map V.ref)) ∧ Pcs L H ts its ∧ its.length ≤ 4 ∧ m ≤ 4 ∧ Q (tV (cutT its m)) H
theorem c_law_cut (C : Ctx K mg) : Cal P w K mg base 1 "_law_cut" spLawCut [] := by
  refine (fLawCut C).cal scLawCut (fun _ _ _ _ _ _ us hl => match us, hl with | [_, _], _ => rfl) (fun vs H Q E h => ?_) (fun cdv A outer s H vs Q E hr h => ?_)
  · obtain ⟨D, L, m, ts, its, rfl, _⟩ := h
    rfl
  obtain ⟨D, L, m, ts, its, rfl, hD, hp, h4, hm, q⟩ := h
  have nd := scLawCut.nd
  have hlen : ∀ i, (cutT (its.take i) m).length ≤ 64 := fun i => by
    have h1 := cutT_len (m := m) (its.take i) fun q hq => (hp.each q (List.mem_of_mem_take hq)).1
    have h2 : (its.take i).length * (4 * m) ≤ 4 * (4 * 4) := Nat.mul_le_mul (by rw [List.length_take]; omega) (by omega)
    omega
  refine ⟨_, pss_cons (ps_set (i := 2) nd rfl (Or.inl rfl) pe_str)
    (pss_cons (ps_for PassesOwn.never rfl (pi_list (pv 0)) (pg_tup (by rfl) (pgs_cons (pg_name (i := 3) nd rfl (Or.inl rfl)) (pgs_cons (pg_name (i := 4) nd rfl (Or.inl rfl)) pgs_nil)))
      (pss_one (ps_set (i := 2) nd rfl (Or.inl rfl) (pe_op op_add_str (pv 2) (pe_op op_mulS (pv 3) (pe_callB (call_min2 rfl) (by rfl) (b_min C) boot_min (pa_cons (pv 4) (pa_cons (pv 1) pa_nil))))))))
    (pss_one (ps_ret (pv 2)))), ?_⟩
  refine ⟨.ref D, rfl, D, rfl, ⟨_, sq hD⟩, for_go (walk_list (K := K) (a := D) (xs := ts.map V.ref)) (fun i σ H' => ∃ v3 v4 : Option V, σ = [some (.ref D), some (nat m), some (tV (cutT (its.take i) m)), v3, v4] ∧ H' = H) ⟨none, none, rfl, rfl⟩ (fun i σ H' _ p => ?_) (fun i z σ H1 H2 hi p y => ?_) (fun σ H' p => ?_)⟩
  · obtain ⟨_, _, _, rfl⟩ := p
    exact sq hD
  · obtain ⟨v3, v4, rfl, rfl⟩ := p
    obtain ⟨rfl, hz⟩ := y
    obtain ⟨b, n, t, rfl, hq, hb, ⟨ht, hc⟩, hn⟩ := hp.get hz
    have hl := hlen i
    refine ⟨b, _, rfl, st hb, rfl, _, _, rfl, _, [], rfl, rfl, ?_⟩
    refine ⟨tV (cutT (its.take i) m), rfl, tV t, rfl, nat n, rfl, nat m, rfl, _, _, rfl, t, min n m, rfl, int_min n m, by omega, by omega, ?_⟩
    refine ⟨S (cutT (its.take i) m), S (rep t (min n m)), rfl, rfl, ?_, some (tV t), some (nat n), ?_, rfl⟩
    · rw [S_len, S_len, rep_len]
      have : min n m * t.length ≤ 4 * 4 := Nat.mul_le_mul (by omega) ht
      exact small (by omega)
    · rw [cutT_snoc hq, S_cat]
      rfl
  · obtain ⟨v3, v4, rfl, rfl⟩ := p
    rw [List.length_map, hp.1, List.take_length]
    exact ⟨_, rfl, q⟩
abbrev nLW : List Str := ["_law_letters", "_law_depth", "_law_found", "_law_layer", "_law_size", "_law_more", "_law_word", "_law_letter"]
theorem scLawWords : FnScope nLW ["_law_letters", "_law_depth"] (defScope sLawWords) := fnScope_by (by decide +kernel)
theorem c_law_words (C : Ctx K mg) : Cal P w K mg base 1 "_law_words" spWordsOf [] := by
  refine (fLawWords C).cal scLawWords (fun _ _ _ _ _ _ us hl => match us, hl with | [_, _], _ => rfl) (fun vs H Q E h => ?_) (fun cdv A outer s H vs Q E hr h => ?_)
  · obtain ⟨L, n, rfl, _⟩ := h
    rfl
  obtain ⟨L, n, rfl, hL, hn, q⟩ := h
  have nd := scLawWords.nd
  have hLl := hL.len
  refine ⟨_, pss_cons (ps_par (i := 2) (j := 3) rfl nd rfl rfl (by decide) rfl rfl (pa_cons (pe_lst (pa_cons pe_str pa_nil)) (pa_cons (pe_lst (pa_cons pe_str pa_nil)) pa_nil)) rfl)
    (pss_cons (ps_for PassesOwn.never rfl (pi_range1 rfl (b_range C) (pa_cons (pv 1) pa_nil)) (pg_name (i := 4) nd rfl (Or.inl rfl))
      (pss_cons (ps_set (i := 5) nd rfl (Or.inl rfl) (pe_lst pa_nil))
      (pss_cons (ps_for PassesOwn.never rfl (pi_list (pv 3)) (pg_name (i := 6) nd rfl (Or.inr rfl))
        (pss_one (ps_set (i := 5) nd rfl (Or.inl rfl) (pe_op op_cat (pv 5) (pe_lc (own := [("_law_letter", 7)]) (g := gName 7) (by rfl) nd (pi_str (pv 0))
          (blkOk_by (own := [("_law_letter", 7)]) (N := nLW) (sc := defScope sLawWords) (by decide +kernel))
          (fun _ _ _ _ _ => pg_name (i := 7) nd rfl (Or.inl rfl)) (fun _ _ _ _ _ => pts_nil)
          (fun _ _ _ _ _ => pe_op op_add_str (pv 6) (pv 7)))))))
      (pss_cons (ps_set (i := 3) nd rfl (Or.inl rfl) (pv 5))
      (pss_one (ps_set (i := 2) nd rfl (Or.inl rfl) (pe_op op_cat (pv 2) (pv 3))))))))
    (pss_one (ps_ret (pv 2)))), ?_⟩
  refine ⟨by show 1 ≤ sizeLine; decide, fun F0 hF0 => ⟨by show 1 ≤ sizeLine; decide, fun Y0 hY0 => ⟨_, _, rfl, ?_⟩⟩⟩
  have s0 := sm_new hF0 (.lst [tV []])
  refine ⟨.int ((n : Nat) : Int), rfl, _, rfl, by omega, by omega, for_range (lo := 0) (fun i σ H' => ∃ (F Y : Addr) (v4 v5 v6 : Option V), σ = [some (tV L), some (nat n), some (.ref F), some (.ref Y), v4, v5, v6, none] ∧ Same H H' ∧ H F = none ∧ H' F = some (.lst ((wordsTo L (i + 1)).map tV)) ∧ H' Y = some (.lst ((wordsN L i).map tV)))
    ⟨F0, Y0, none, none, none, rfl, s0.trans (sm_new hY0 _), hF0, sm_new hY0 _ _ _ upd_same, upd_same⟩ (fun i σ H1 hi p => ?_) (fun σ H' p => ?_)⟩
  · obtain ⟨F, Y, v4, v5, v6, rfl, sm, nF, hF, hY⟩ := p
    have hi3 : i < 3 := by omega
    have wl : (wordsN L i).length ≤ 27 := by rw [wordsN_len]; exact pow_le3 hL (by omega)
    refine ⟨Nat.zero_le _, fun M0 hM0 => ?_⟩
    have s1 := sm_new hM0 (.lst [])
    refine ⟨.ref Y, rfl, Y, rfl, ⟨_, sq (s1 _ _ hY)⟩, for_go (walk_list (K := K) (a := Y) (xs := (wordsN L i).map tV)) (fun j σ H2 => ∃ (M : Addr) (v6 : Option V), σ = [some (tV L), some (nat n), some (.ref F), some (.ref Y), some (.int (0 + ((i : Nat) : Int))), some (.ref M), v6, none] ∧ Same H1 H2 ∧ H1 M = none ∧ H2 M = some (.lst ((((wordsN L i).take j).flatMap fun u => L.map fun c => u ++ [c]).map tV))) ⟨M0, v6, rfl, s1, hM0, upd_same⟩ (fun j σ H2 _ p => ?_) (fun j z σ H2 H3 hj p y => ?_) (fun σ H2 p => ?_)⟩
    · obtain ⟨M, v6, _, p1, _⟩ := p
      exact sq (p1 _ _ hY)
    · obtain ⟨M, v6, rfl, p1, nM, hM⟩ := p
      obtain ⟨rfl, hz⟩ := y
      obtain ⟨u, hu, rfl⟩ := get_map hz
      have ul := wordsN_each L i u (List.mem_of_getElem? hu)
      refine ⟨.ref M, rfl, tV L, rfl, S L, rfl, fun D hD => lc_vals walk_str (xs := (L.map fun c => u ++ [c]).map tV) (by simp) (by show (S L).length ≤ 1000; have := S_len L; omega) hD (fun _ _ => trivial) (fun k v x H4 H5 hv hk s4 y => ?_) (fun H4 s4 hD4 => ?_)⟩
      · obtain ⟨rfl, c, hc, rfl⟩ := y
        have hc' : L[k]? = some c := by
          have : (S L).cps.toList[k]? = some c := by rw [← hc, Array.getElem?_toList]
          exact this
        rw [List.getElem?_map, List.getElem?_map, hc'] at hv
        obtain rfl : tV (u ++ [c]) = v := Option.some.inj hv
        refine ⟨Same.refl _, fun R E hR => ⟨rfl, tV u, rfl, .str ⟨#[c]⟩, rfl, S u, S [c], rfl, rfl, ?_, ?_⟩⟩
        · rw [S_len, S_len]
          exact small (by show u.length + 1 ≤ _; omega)
        · have := hR _ (Same.refl _)
          rw [S_cat]
          exact this
      · have hM4 := s4 _ _ hM
        refine ⟨M, D, _, _, rfl, rfl, hM4, hD4, ?_, fun M2 hM2 => ?_⟩
        · rw [List.length_map, flat_len, List.length_map, List.length_map, List.length_take]
          have : min j (wordsN L i).length * L.length ≤ 27 * 3 := Nat.mul_le_mul (by omega) hLl
          exact small (by omega)
        · refine ⟨M2, _, rfl, (p1.trans s4).trans (sm_new hM2 _), (p1.trans s4).free hM2, ?_⟩
          rw [upd_same, List.take_add_one, hu]
          simp
    · obtain ⟨M, v6, rfl, p1, nM, hM⟩ := p
      rw [List.length_map, List.take_length] at hM
      have hF2 := p1 _ _ hF
      refine ⟨.ref M, rfl, .ref F, rfl, .ref M, rfl, F, M, _, _, rfl, rfl, hF2, hM, ?_, fun F2 hF2' => ?_⟩
      · have := wordsTo_len hL (n := i + 1) (by omega)
        have h2 : (wordsN L (i + 1)).length ≤ 27 := by rw [wordsN_len]; exact pow_le3 hL (by omega)
        have e2 : (((wordsN L i).flatMap fun u => L.map fun c => u ++ [c]).map tV).length = (wordsN L (i + 1)).length := by rw [List.length_map]; rfl
        rw [List.length_map, e2]
        exact small (by omega)
      · refine ⟨F2, M, _, _, _, rfl, (sm.trans p1).trans (sm_new hF2' _), (sm.trans p1).free hF2', ?_, ?_⟩
        · rw [upd_same, wordsTo.eq_2 L (i + 1), List.map_append]
          rfl
        · exact sm_new hF2' _ _ _ hM
  · obtain ⟨F, Y, v4, v5, v6, rfl, sm, nF, hF, hY⟩ := p
    exact ⟨.ref F, rfl, q F H' nF sm hF⟩
end
end Sk
end
section
set_option Elab.async false
set_option linter.all false
set_option maxRecDepth 100000
set_option maxHeartbeats 4000000
namespace Sk
open PySem PySem.Spec PyProof.Rows L2 SX C8
theorem read_cnt {t w : Tx} (h : isRead t w = true) : (0 : Int) < ((cnt w t : Nat) : Int) := by
  have := (cnt_pos t w).mpr (isRead_iff.mp h)
  omega
theorem unread_cnt {t w : Tx} (h : ¬ isRead t w = true) : ¬ (0 : Int) < ((cnt w t : Nat) : Int) := fun z => h (isRead_iff.mpr ((cnt_pos t w).mp (by omega)))
theorem sml_words {L : Tx} (h : Alp L) {n : Nat} (hn : n ≤ 4) (p : Tx → Bool) : Sml ((wordsTo L n).filter p) := fun w hw => by
  obtain ⟨h1, h2⟩ := mem_wordsTo.mp (List.mem_filter.mp hw).1
  refine ⟨by omega, fun c hc => ?_⟩
  have := h.lo c (h2 c hc)
  omega
section
variable {P : Program} {w : World} {K : PySem.W.Frag} {mg : Str → Option Value} {base : Heap}
theorem Live.part {S : List Tx} {H : Hp} {v : V} {t : Tx} (h : Live K S H v t) : ∃ n, n ≤ 1 ∧ Part K (n + 1) H v t := by
  rcases h with hp | ⟨x1, x0, c0, m, u, rfl, hN, rfl, hcold⟩
  · exact ⟨0, by omega, hp⟩
  · obtain ⟨dx, p, a, dx0, b, c, d, b0, c1, d0, hx, hpl, ha, hpt, hx0, hm, hp2⟩ := hN
    exact ⟨1, by omega, hp2⟩
/-- the pairs of words and counts -/
theorem pick_counts {L : Tx} {d : Nat} {t : Tx} {a b D : Addr} {H0 : Hp} {σ : L2.St} {vs : List Nat} {i j : Nat} {Qd : Hp → Prop} (hL : Alp L) (hd : d ≤ 3) (ha : H0 a = some (.lst ((wordsTo L (d + 1)).map tV))) (hb : H0 b = some (.lst ((wordsTo L (d + 1)).map fun w => nat (cnt w t)))) (hD : H0 D = none)
    {g : TG} {tt : TT} {te : TE}
    (hg : ∀ (T : Addr) (x y : V) (H : Hp) (N : L2.St → Hp → Prop), H T = some (.tup [x, y]) → (∀ σ2, wipe σ2 vs = wipe σ vs → σ2[i]? = some (some x) → σ2[j]? = some (some y) → N σ2 H) → g (.ref T) (wipe σ vs) H N)
    (ht : ∀ (σ2 : L2.St) (H : Hp) (m : Nat) (N : Bool → Hp → Prop), σ2[j]? = some (some (nat m)) → N (decide ((0 : Int) < ((m : Nat) : Int))) H → tt σ2 H N)
    (he : ∀ (σ2 : L2.St) (H : Hp) (x : V) (R : VK), σ2[i]? = some (some x) → R x H → te σ2 H R)
    (hq : ∀ H', Same H0 H' → H' D = some (.lst (((wordsTo L (d + 1)).filter (isRead t)).map tV)) → Qd H') :
    ∃ W : Nat → Nat → Hp → Prop, (∃ m, W 0 m (upd H0 D (.lst []))) ∧ ∀ i m H, W i m H → ((Itz K a b).stop i H ∧ Qd H) ∨ ((Itz K a b).go i H ∧ ∃ Nx : Hp → Prop, (∀ H', Nx H' → ∃ m', m' < m ∧ W (i + 1) m' H') ∧ ∀ x H', (Itz K a b).yld i H x H' →
      g x (wipe σ vs) H' fun σ2 H2 => wipe σ2 vs = wipe σ vs ∧ tt σ2 H2 fun b H3 => if b = true then te σ2 H3 fun y H4 => ∃ acc, H4 D = some (.lst acc) ∧ acc.length < sizeLine ∧ Nx (upd H4 D (.lst (acc ++ [y]))) else Nx H3) := by
  have hl := (wds hL hd).few
  refine lc_pick (walk_zip (K := K) (a := a) (b := b) (xs := (wordsTo L (d + 1)).map tV) (ys := (wordsTo L (d + 1)).map fun w => nat (cnt w t)) rfl) (ks := wordsTo L (d + 1)) (f := tV) (pk := isRead t) (by simp) (by simp; omega) hD (fun H1 s1 => ⟨sq (s1 _ _ ha), sq (s1 _ _ hb)⟩) (fun k w z H1 H2 hw hk s1 y => ?_) hq
  obtain ⟨T, x, y, rfl, hT, rfl, hx, hy⟩ := y
  simp only [List.getElem?_map, hw] at hx hy
  obtain rfl : tV w = x := Option.some.inj hx
  obtain rfl : nat (cnt w t) = y := Option.some.inj hy
  refine ⟨sm_new hT _, fun R E hR hE => hg T _ _ _ _ upd_same fun σ2 e1 e2 e3 => ⟨e1, ht σ2 _ (cnt w t) _ e3 ?_⟩⟩
  by_cases hr : isRead t w = true
  · rw [decide_eq_true (read_cnt hr)]
    exact iteT (he σ2 _ _ _ e2 (hR hr _ (Same.refl _)))
  · rw [decide_eq_false (unread_cnt hr)]
    exact iteF (hE (by simpa using hr) _ (Same.refl _))
abbrev nHad : List Str := ["_law_letters", "_law_kept", "_law_depth", "_law_words_here", "_law_word", "_law_number"]
theorem scLawHad : FnScope nHad ["_law_letters", "_law_kept", "_law_depth"] (defScope sLawHad) := fnScope_by (by decide +kernel)
def spLawHad (K : PySem.W.Frag) : Sp := fun vs H Q _ => ∃ (L : Tx) (v : V) (d n : Nat) (t : Tx), vs = [tV L, v, nat d] ∧ Alp L ∧ d ≤ 3 ∧ n ≤ 1 ∧ Part K (n + 1) H v t ∧ RL (((wordsTo L (d + 1)).filter (isRead t)).map tV) H Q
theorem c_law_had (C : Ctx K mg) : Cal P w K mg base 7 "_law_had" (spLawHad K) [] := by
  refine (fLawHad C).cal scLawHad (fun _ _ _ _ _ _ us hl => match us, hl with | [_, _, _], _ => rfl) (fun vs H Q E h => ?_) (fun cdv A outer s H vs Q E hr h => ?_)
  · obtain ⟨L, v, d, n, t, rfl, _⟩ := h
    rfl
  obtain ⟨L, v, d, n, t, rfl, hL, hd, hn, hp, q⟩ := h
  have nd := scLawHad.nd
  refine ⟨_, pss_cons (ps_set (i := 3) nd rfl (Or.inl rfl) (pe_c (c_law_words C) hr (by decide) (by rfl) (pa_cons (pv 0) (pa_cons (pv 2) pa_nil))))
    (pss_one (ps_ret (pe_lc (own := [("_law_word", 4), ("_law_number", 5)]) (g := g2 K 4 5) (by rfl) nd (pi_zip rfl (b_zip C) (pa_cons (pv 3) (pa_cons (pe_c (c_kept_counts C) hr (by decide) (by rfl) (pa_cons (pv 0) (pa_cons (pv 2) (pa_cons (pv 1) pa_nil)))) pa_nil)))
      (blkOk_by (own := [("_law_word", 4), ("_law_number", 5)]) (N := nHad) (sc := defScope sLawHad) (by decide +kernel))
      (fun _ _ _ _ _ => pg_tup (by rfl) (pgs_cons (pg_name (i := 4) nd rfl (Or.inl rfl)) (pgs_cons (pg_name (i := 5) nd rfl (Or.inl rfl)) pgs_nil)))
      (fun _ _ _ _ _ => pts_one (pt_cmpR op_gt (pv 5) pe_int (nomark _)))
      (fun _ _ _ _ _ => pv 4)))), ?_⟩
  refine ⟨tV L, rfl, nat d, rfl, L, d, rfl, hL, hd, fun a H1 na s1 ha => ?_⟩
  refine ⟨.ref a, rfl, tV L, rfl, nat d, rfl, v, rfl, L, d, n, v, t, rfl, hL, hd, hn, hp.keep (.of s1), fun b H2 nb s2 hb => ?_⟩
  refine ⟨a, b, _, _, rfl, sq (s2 _ _ ha), sq hb, fun D hD => pick_counts (i := 4) (j := 5) hL hd (s2 _ _ ha) hb hD (fun T x y H N hT hN => ?_) (fun σ2 H m N e hN => ?_) (fun σ2 H x R e hR => ?_) (fun H' s3 hD' => ?_)⟩
  · exact ⟨T, _, rfl, st hT, rfl, _, _, rfl, _, [], rfl, rfl, hN _ rfl rfl rfl⟩
  · exact ⟨nat m, e, _, _, rfl, rfl, _, rfl, hN⟩
  · exact ⟨x, e, hR⟩
  · exact q D H' ((s1.trans s2).free hD) ((s1.trans s2).trans s3) hD'
end
end Sk
end
section
set_option Elab.async false
set_option linter.all false
set_option maxRecDepth 100000
set_option maxHeartbeats 4000000
namespace Sk
open PySem PySem.Spec PyProof.Rows L2 SX C8
section
variable {P : Program} {w : World} {K : PySem.W.Frag} {mg : Str → Option Value} {base : Heap}
theorem bl_same {α : Type} [DecidableEq α] (x : α) : V.bl (!decide (x = x)) = V.bl false := by rw [decide_eq_true rfl]; rfl
abbrev nKR : List Str := ["_law_letters", "_law_kept", "_law_cut_here", "_law_words_here", "_law_counts", "_law_word", "_law_due", "_law_number"]
theorem scLawKeptRight : FnScope nKR ["_law_letters", "_law_kept", "_law_cut_here"] (defScope sLawKeptRight) := fnScope_by (by decide +kernel)
def spKeptRight (K : PySem.W.Frag) : Sp := fun vs H Q _ => ∃ (L : Tx) (v : V) (u t : Tx), vs = [tV L, v, tV u] ∧ Alp L ∧ Live K [] H v t ∧ Alike 3 u t ∧ u.Sublist t ∧ u.length ≤ 256 ∧ (∀ c ∈ u, c ∈ L) ∧ ∀ H', DK H H' → Q (.bl true) H'
theorem c_law_kept_right (C : Ctx K mg) : Cal P w K mg base 8 "_law_kept_right" (spKeptRight K) [] := by
  refine (fLawKeptRight C).cal scLawKeptRight (fun _ _ _ _ _ _ us hl => match us, hl with | [_, _, _], _ => rfl) (fun vs H Q E h => ?_) (fun cdv A outer s H vs Q E hr h => ?_)
  · obtain ⟨L, v, u, t, rfl, _⟩ := h
    rfl
  obtain ⟨L, v, u, t, rfl, hL, hv, hal, hsub, hul, huL, q⟩ := h
  have nd := scLawKeptRight.nd
  refine ⟨_, pss_cons (ps_set (i := 3) nd rfl (Or.inl rfl) (pe_c (c_law_words C) hr (by decide) (by rfl) (pa_cons (pv 0) (pa_cons pe_int pa_nil))))
    (pss_cons (ps_set (i := 4) nd rfl (Or.inl rfl) (pe_c (c_kept_counts C) hr (by decide) (by rfl) (pa_cons (pv 0) (pa_cons pe_int (pa_cons (pv 1) pa_nil)))))
    (pss_cons (ps_setLc (i := 6) (own := [("_law_word", 5)]) (g := gName 5) (by rfl) nd rfl rfl (sw_true rfl rfl rfl (by decide +kernel)) (pi_list (pv 3))
        (blkOk_by (own := [("_law_word", 5)]) (N := nKR) (sc := defScope sLawKeptRight) (by decide +kernel))
        (fun _ _ _ _ _ => pg_name (i := 5) nd rfl (Or.inl rfl))
        (fun _ _ _ _ _ => pts_one (pt_cmpR op_gt (pe_c (c_law_count (P := P) (base := base) C) hr (by decide) (by rfl) (pa_cons (pv 5) (pa_cons (pv 2) pa_nil))) pe_int (nomark _)))
        (fun _ _ _ _ _ => pv 5))
    (pss_cons (ps_if (PW.pt (pw_or (pt_cmpR (op_neD hr.units) (pe_lc (own := [("_law_word", 5), ("_law_number", 7)]) (g := g2 K 5 7) (by rfl) nd (pi_zip rfl (b_zip C) (pa_cons (pv 3) (pa_cons (pv 4) pa_nil)))
          (blkOk_by (own := [("_law_word", 5), ("_law_number", 7)]) (N := nKR) (sc := defScope sLawKeptRight) (by decide +kernel))
          (fun _ _ _ _ _ => pg_tup (by rfl) (pgs_cons (pg_name (i := 5) nd rfl (Or.inl rfl)) (pgs_cons (pg_name (i := 7) nd rfl (Or.inl rfl)) pgs_nil)))
          (fun _ _ _ _ _ => pts_one (pt_cmpR op_gt (pv 7) pe_int (nomark _)))
          (fun _ _ _ _ _ => pv 5)) (pv 6) (nomark _))
        (pw_or1 (pt_cmpR (op_neD hr.units) (pe_c (c_reads C) hr (by decide) (by rfl) (pa_cons pe_int (pa_cons (pv 2) pa_nil))) (pv 6) (nomark _))))) (pss_one ps_never) pss_nil)
    (pss_cons (ps_for PassesOwn.never rfl (pi_zip rfl (b_zip C) (pa_cons (pv 3) (pa_cons (pv 4) pa_nil))) (pg_tup (by rfl) (pgs_cons (pg_name (i := 5) nd rfl (Or.inl rfl)) (pgs_cons (pg_name (i := 7) nd rfl (Or.inl rfl)) pgs_nil)))
      (pss_one (ps_if (PW.pt (pw_or (pt_cmpR op_ne (pe_c (c_kept_count C) hr (by decide) (by rfl) (pa_cons (pv 5) (pa_cons (pv 1) pa_nil))) (pv 7) (nomark _))
          (pw_or1 (pt_cmpR op_lt (pv 7) (pe_c (c_law_count C) hr (by decide) (by rfl) (pa_cons (pv 5) (pa_cons (pv 2) pa_nil))) (nomark _))))) (pss_one ps_never) pss_nil)))
    (pss_one (ps_ret pe_bl)))))), ?_⟩
  obtain ⟨n, hn, hp⟩ := hv.part
  have hws := wds hL (n := 3) (by decide)
  have hfew : (wordsTo L 4).length ≤ 200 := hws.few
  have hread : (wordsTo L 4).filter (isRead t) = (wordsTo L 4).filter (isRead u) := (read_of_alike (d := 3) hal (Nat.le_refl _)).symm
  refine ⟨tV L, rfl, L, 3, rfl, hL, by decide, fun a H1 na s1 ha => ?_⟩
  refine ⟨tV L, rfl, v, rfl, L, 3, n, v, t, rfl, hL, by decide, hn, hp.keep (.of s1), fun b H2 nb s2 hb => ?_⟩
  have ha2 := s2 _ _ ha
  refine ⟨.ref a, rfl, a, rfl, ⟨_, sq ha2⟩, fun D hD => lc_pick (walk_list (K := K) (a := a) (xs := (wordsTo L 4).map tV)) (ks := wordsTo L 4) (f := tV) (pk := isRead u) (by simp) (by simp; omega) hD (fun H3 s3 => sq (s3 _ _ ha2)) (fun i x z H3 H4 hx hi s3 y => ?_) (fun H3 s3 hD3 => ?_)⟩
  · obtain ⟨rfl, hz⟩ := y
    rw [List.getElem?_map, hx] at hz
    obtain rfl : tV x = z := Option.some.inj hz
    have hxl := hws.low x (List.mem_of_getElem? hx)
    refine ⟨Same.refl _, fun R E hR hE => ⟨rfl, tV x, rfl, tV u, rfl, x, u, rfl, hxl, fun H5 s5 => ⟨_, _, rfl, rfl, _, rfl, ?_⟩⟩⟩
    by_cases hr : isRead u x = true
    · rw [decide_eq_true (read_cnt hr)]
      exact iteT ⟨tV x, rfl, hR hr _ s5⟩
    · rw [decide_eq_false (unread_cnt hr)]
      exact iteF (hE (by simpa using hr) _ s5)
  have ha3 := s3 _ _ ha2
  have hb3 := s3 _ _ hb
  have hS := sml_words hL (Nat.le_refl 4) (isRead u)
  refine ⟨.ref a, rfl, .ref b, rfl, a, b, _, _, rfl, sq ha3, sq hb3, fun D2 hD2 => pick_counts (i := 5) (j := 7) (d := 3) hL (by decide) ha3 hb3 hD2 (fun T x y H N hT hN => ?_) (fun σ2 H m N e hN => ?_) (fun σ2 H x R e hR => ?_) (fun H4 s4 hD4 => ?_)⟩
  · exact ⟨T, _, rfl, st hT, rfl, _, _, rfl, _, [], rfl, rfl, hN _ rfl rfl rfl⟩
  · exact ⟨nat m, e, _, _, rfl, rfl, _, rfl, hN⟩
  · exact ⟨x, e, hR⟩
  rw [hread] at hD4
  refine ⟨.ref D, rfl, ne_texts (sq hD4) (sq (s4 _ _ hD3)) hS hS ⟨false, bl_same _, iteF ?_⟩⟩
  refine ⟨tV u, rfl, L, u, 3, rfl, hL, huL, hul, by decide, fun R3 H5 nR s5 hR3 => ?_⟩
  have s45 := s4.trans s5
  refine ⟨.ref D, rfl, ne_texts (sq hR3) (sq (s45 _ _ hD3)) hS hS ⟨false, bl_same _, iteF ?_⟩⟩
  have s35 := s3.trans s45
  have hv5 : Live K [] H5 v t := hv.same ((s1.trans s2).trans s35)
  have ha5 := s35 _ _ ha2
  have hb5 := s35 _ _ hb
  have d5 : DK H H5 := DK.of ((s1.trans s2).trans s35)
  refine ⟨.ref a, rfl, .ref b, rfl, a, b, _, _, rfl, sq ha5, sq hb5, for_go (walk_zip (K := K) (a := a) (b := b) (xs := (wordsTo L 4).map tV) (ys := (wordsTo L 4).map fun w => nat (cnt w t)) rfl) (fun i σ H' => ∃ v5 v7 : Option V, σ = [some (tV L), some v, some (tV u), some (.ref a), some (.ref b), v5, some (.ref D), v7] ∧ DK H5 H' ∧ Live K (((wordsTo L 4).take i).reverse) H' v t) ⟨_, _, rfl, DK.of (Same.refl _), by rw [List.take_zero]; exact hv5⟩ (fun i σ H' _ p => ?_) (fun i z σ H6 H7 hi p y => ?_) (fun σ H' p => ?_)⟩
  · obtain ⟨_, _, _, dk, _⟩ := p
    exact ⟨sq (dk.lst ha5), sq (dk.lst hb5)⟩
  · obtain ⟨v5, v7, rfl, dk, hl⟩ := p
    obtain ⟨T, x, y, rfl, hT, rfl, hx, hy⟩ := y
    have hi4 : i < (wordsTo L 4).length := by simpa using hi
    have hw : (wordsTo L 4)[i]? = some (wordsTo L 4)[i] := List.getElem?_eq_getElem hi4
    generalize (wordsTo L 4)[i] = w at hw
    simp only [List.getElem?_map, hw] at hx hy
    obtain rfl : tV w = x := Option.some.inj hx
    obtain rfl : nat (cnt w t) = y := Option.some.inj hy
    have hwm := List.mem_of_getElem? hw
    have hwl := hws.low w hwm
    have s7 := sm_new hT (.tup [tV w, nat (cnt w t)])
    have etk : (wordsTo L 4).take (i + 1) = (wordsTo L 4).take i ++ [w] := by rw [List.take_add_one, hw]; rfl
    have hnot : w ∉ ((wordsTo L 4).take i).reverse := fun z => by
      have h1 := hws.nd.sublist (List.take_sublist (i + 1) _)
      rw [etk, List.nodup_append] at h1
      exact h1.2.2 w (List.mem_reverse.mp z) w (List.mem_singleton_self w) rfl
    refine ⟨T, _, rfl, st upd_same, rfl, _, _, rfl, _, [], rfl, rfl, ?_⟩
    refine ⟨tV w, rfl, v, rfl, w, t, v, ((wordsTo L 4).take i).reverse, rfl, hwl, fun c hc => hL.lo c ((mem_wordsTo.mp hwm).2 c hc), hl.same s7, hnot, by rw [List.length_reverse, List.length_take]; omega, fun H8 d8 l8 => ?_⟩
    refine ⟨nat (cnt w t), rfl, rfl, false, ?_, iteF ?_⟩
    · exact bl_same _
    refine ⟨nat (cnt w t), rfl, tV w, rfl, tV u, rfl, w, u, rfl, hwl, fun H9 s9 => ⟨_, _, rfl, rfl, false, ?_, iteF ?_⟩⟩
    · have := cnt_mono hsub w
      exact bl_f (by omega)
    · refine ⟨_, _, rfl, (dk.trans ((DK.of s7).trans d8)).trans (DK.of s9), ?_⟩
      rw [etk, List.reverse_append]
      exact l8.same s9
  · obtain ⟨v5, v7, rfl, dk, hl⟩ := p
    exact q H' (d5.trans dk)
end
end Sk
end
section
set_option Elab.async false
set_option linter.all false
set_option maxRecDepth 100000
set_option maxHeartbeats 4000000
namespace Sk
open PySem PySem.Spec PyProof.Rows L2 SX C8
section
variable {P : Program} {w : World} {K : PySem.W.Frag} {mg : Str → Option Value} {base : Heap}
theorem Alp.abc {L t : Tx} (h : Alp L) (ht : ∀ c ∈ t, c ∈ L) : Abc t := fun c hc => by
  have h1 := ht c hc
  rcases h with rfl | rfl <;> (simp at h1; omega)
abbrev nFR : List Str := ["_law_generator_here", "_law_pieces_here", "_law_outer", "_law_letters", "_law_cut_here", "_law_more", "_law_less"]
theorem scLawFormsRight : FnScope nFR ["_law_generator_here", "_law_pieces_here", "_law_outer", "_law_letters"] (defScope sLawFormsRight) := fnScope_by (by decide +kernel)
def spFormsRight : Sp := fun vs H Q _ => ∃ (g : V) (D : Addr) (L : Tx) (o : Nat) (ts : List Addr) (its : List Pc), vs = [g, .ref D, nat o, tV L] ∧ Alp L ∧ H D = some (.lst (ts.map V.ref)) ∧ Pcs L H ts its ∧ its.length ≤ 4 ∧ ∀ H', Same H H' → Q (.bl true) H'
theorem c_law_forms_right (C : Ctx K mg) : Cal P w K mg base 7 "_law_forms_right" spFormsRight [] := by
  refine (fLawFormsRight C).cal scLawFormsRight (fun _ _ _ _ _ _ us hl => match us, hl with | [_, _, _, _], _ => rfl) (fun vs H Q E h => ?_) (fun cdv A outer s H vs Q E hr h => ?_)
  · obtain ⟨g, D, L, o, ts, its, rfl, _⟩ := h
    rfl
  obtain ⟨g, D, L, o, ts, its, rfl, hL, hD, hp, h4, q⟩ := h
  have nd := scLawFormsRight.nd
  have hle : ∀ q ∈ its, q.2.2.length ≤ 4 := fun q hq => (hp.each q hq).1
  have hlet : ∀ m, ∀ c ∈ cutO its o m, c ∈ L := fun m c hc => by
    obtain ⟨q, hq, h⟩ := cutO_mem hc
    exact (hp.each q hq).2 c h
  have l3 : (cutO its o 3).length ≤ 256 := cutO_len o hle h4 (by decide)
  have l4 : (cutO its o 4).length ≤ 256 := cutO_len o hle h4 (by decide)
  have c3 : (cutT its 3).length ≤ 64 := by
    have h1 := cutT_len (m := 3) its hle
    have h2 : its.length * (4 * 3) ≤ 4 * (4 * 3) := Nat.mul_le_mul h4 (by omega)
    omega
  have c4 : (cutT its 4).length ≤ 64 := by
    have h1 := cutT_len (m := 4) its hle
    have h2 : its.length * (4 * 4) ≤ 4 * (4 * 4) := Nat.mul_le_mul h4 (by omega)
    omega
  have a3 : Abc (cutO its o 3) := hL.abc (hlet 3)
  have a4 : Abc (cutO its o 4) := hL.abc (hlet 4)
  have al : Alike 3 (cutO its o 3) (cutO its o 4) := (cutO_alike (by decide) its o).trans (cutO_alike (by decide) its o).symm
  refine ⟨_, pss_cons (ps_par (i := 4) (j := 5) rfl nd rfl rfl (by decide) rfl rfl (pa_cons (pe_op op_mulS (pe_c (c_law_cut C) hr (by decide) (by rfl) (pa_cons (pv 1) (pa_cons pe_int pa_nil))) (pe_callB (call_min2 rfl) (by rfl) (b_min C) boot_min (pa_cons (pv 2) (pa_cons pe_int pa_nil))))
      (pa_cons (pe_op op_mulS (pe_c (c_law_cut C) hr (by decide) (by rfl) (pa_cons (pv 1) (pa_cons pe_int pa_nil))) (pe_callB (call_min2 rfl) (by rfl) (b_min C) boot_min (pa_cons (pv 2) (pa_cons pe_int pa_nil)))) pa_nil)) rfl)
    (pss_cons (ps_if (PW.pt (pw_or (pt_cmpR op_notBl (pe_c (c_read_alike C) hr (by decide) (by rfl) (pa_cons pe_int (pa_cons (pv 4) (pa_cons (pv 5) pa_nil)))) pe_bl (nomark _))
        (pw_or1 (pt_cmpR op_ne (pe_c (c_least_form C) hr (by decide) (by rfl) (pa_cons pe_int (pa_cons (pv 4) pa_nil))) (pe_c (c_least_form C) hr (by decide) (by rfl) (pa_cons pe_int (pa_cons (pv 5) pa_nil))) (nomark _))))) (pss_one ps_never) pss_nil)
    (pss_cons (ps_set (i := 6) nd rfl (Or.inl rfl) (pe_c (c_least_form C) hr (by decide) (by rfl) (pa_cons pe_int (pa_cons (pv 4) pa_nil))))
    (pss_one (ps_ret (pe_and (pe_cmpR (op_eqD hr.units) (pe_c (c_reads C) hr (by decide) (by rfl) (pa_cons pe_int (pa_cons (pv 6) pa_nil))) (pe_c (c_reads C) hr (by decide) (by rfl) (pa_cons pe_int (pa_cons (pv 4) pa_nil))) (nomark _))
      (pe_one (pe_cmpR op_le (pe_callB call_len_str (by rfl) (b_len C) boot_len (pa_cons (pv 6) pa_nil)) (pe_callB call_len_str (by rfl) (b_len C) boot_len (pa_cons (pv 4) pa_nil)) (nomark _)))))))), ?_⟩
  refine ⟨.ref D, rfl, D, L, 3, ts, its, rfl, hD, hp, h4, by decide, nat o, rfl, _, _, rfl, cutT its 3, min o 3, rfl, int_min o 3, by omega, by omega, ?_⟩
  refine ⟨.ref D, rfl, D, L, 4, ts, its, rfl, hD, hp, h4, by decide, nat o, rfl, _, _, rfl, cutT its 4, min o 4, rfl, int_min o 4, by omega, by omega, _, _, rfl, ?_⟩
  refine ⟨tV (cutO its o 3), rfl, tV (cutO its o 4), rfl, 3, cutO its o 3, cutO its o 4, rfl, ⟨l3, l4⟩, ⟨a3, a4⟩, al, fun H1 s1 => ⟨true, true, rfl, rfl, false, rfl, iteF ?_⟩⟩
  refine ⟨tV (cutO its o 3), rfl, 3, cutO its o 3, rfl, l3, a3, fun m1 H2 s2 f1 => ?_⟩
  refine ⟨tV (cutO its o 4), rfl, 3, cutO its o 4, rfl, l4, a4, fun m2 H3 s3 f2 => ?_⟩
  obtain rfl : m1 = m2 := (f1.eq_iff f2).mpr al
  refine ⟨rfl, false, bl_same _, iteF ?_⟩
  refine ⟨tV (cutO its o 3), rfl, 3, cutO its o 3, rfl, l3, a3, fun l H4 s4 f => ?_⟩
  have ll : l.length ≤ 256 := Nat.le_trans f.len l3
  have hlL : ∀ c ∈ l, c ∈ L := fun c hc => hlet 3 c (f.mem c hc)
  refine ⟨tV l, rfl, L, l, 3, rfl, hL, hlL, ll, by decide, fun R1 H5 n5 s5 h5 => ?_⟩
  refine ⟨tV (cutO its o 3), rfl, L, cutO its o 3, 3, rfl, hL, hlet 3, l3, by decide, fun R2 H6 n6 s6 h6 => ?_⟩
  have er : (wordsTo L (3 + 1)).filter (isRead l) = (wordsTo L (3 + 1)).filter (isRead (cutO its o 3)) := read_of_alike (d := 3) f.al.symm (Nat.le_refl _)
  refine eq_texts (sq (s6 _ _ h5)) (sq h6) (sml_words hL (Nat.le_refl 4) _) (sml_words hL (Nat.le_refl 4) _) ⟨true, bl_t er, iteT ?_⟩
  refine ⟨tV l, rfl, S l, rfl, smallT (by omega), tV (cutO its o 3), rfl, S (cutO its o 3), rfl, smallT (by omega), _, _, rfl, rfl, ?_⟩
  have hfl := f.len
  exact qT (Q := Q) (by rw [S_len, S_len]; omega) (q H6 (((((s1.trans s2).trans s3).trans s4).trans s5).trans s6))
end
end Sk
end
section
set_option Elab.async false
set_option linter.all false
set_option maxRecDepth 100000
set_option maxHeartbeats 4000000
namespace Sk
open PySem PySem.Spec PyProof.Rows L2 SX C8
theorem init_ok {K : PySem.W.Frag} {H : Hp} {x dx a : Addr} {n : Nat} {ts : List Addr} {its : List Pc} {R : Hp → Prop} {E : XK} (hx : H x = none) (hdx : H dx = none) (ne : dx ≠ x) (ha : H a = some (.lst (ts.map V.ref))) (hT : Tups (Part K n H) H ts its)
    (hn : its.length * (1 + 10 * n) ≤ 10 * (n + 1)) (h4 : its.length ≤ 4) (hn1 : n ≤ 1) (hlen : (whole its).length ≤ 10 ^ 60)
    (q : ∀ (p c : Addr) (sz : Nat) (H' : Hp), Same H H' → Kfields K H' x dx p c sz (whole its).length → H' p = some (.lst (ts.map V.ref)) → H' c = some (.dK []) → Part K (n + 1) H' (.ref x) (whole its) → R H') :
    spInit K (.ref x :: ([.ref a] ++ [])) (upd (upd H dx (.own x)) x (.ins (KC K) dx [])) (fun v H2 => v = .non ∧ R H2) E := by
  have s1 : Same H (upd (upd H dx (.own x)) x (.ins (KC K) dx [])) := (sm_new hdx _).trans (sm_new (by rw [upd_ne ne.symm]; exact hx) _)
  refine ⟨x, dx, a, n, ts, its, rfl, upd_same, s1 _ _ ha, hT.imp (.of s1) fun v t h => h.keep (.of s1), hn, h4, hn1, hlen, fun p c sz H' b hp hc hsz hK hpl hcl => ⟨rfl, ?_⟩⟩
  have s2 : Same H H' := fun y u hy => b y u (s1 y u hy) (ne_of_none hy hx)
  exact q p c sz H' s2 hK hpl hcl ⟨x, dx, p, c, sz, ts, its, rfl, hK, hpl, hT.imp (.of s2) (fun v t h => h.keep (.of s2)), hsz, rfl, hlen, h4⟩
theorem tups3 {K : PySem.W.Frag} {H : Hp} {a b c : Addr} {n m k : Nat} {h p t : Tx} (ha : H a = some (.tup [tV h, nat n])) (hb : H b = some (.tup [tV p, nat m])) (hc : H c = some (.tup [tV t, nat k])) (h1 : h.length ≤ 4 ∧ Abc h) (h2 : p.length ≤ 4 ∧ Abc p) (h3 : t.length ≤ 4 ∧ Abc t)
    (h4 : n < 2 ^ 100 ∧ m < 2 ^ 100 ∧ k < 2 ^ 100) : Tups (Part K 0 H) H [a, b, c] [(tV h, n, h), (tV p, m, p), (tV t, k, t)] := by
  refine ⟨rfl, fun i q e => ?_⟩
  rcases i with _ | _ | _ | i
  · obtain rfl := Option.some.inj e
    exact ⟨a, rfl, ha, ⟨rfl, h1⟩, h4.1⟩
  · obtain rfl := Option.some.inj e
    exact ⟨b, rfl, hb, ⟨rfl, h2⟩, h4.2.1⟩
  · obtain rfl := Option.some.inj e
    exact ⟨c, rfl, hc, ⟨rfl, h3⟩, h4.2.2⟩
  · cases e
theorem whole3 (h p t : Tx) (n : Nat) : whole [(tV h, 1, h), (tV p, n, p), (tV t, 1, t)] = far h p t n := by
  show rep h 1 ++ (rep p n ++ (rep t 1 ++ [])) = _
  rw [rep_one, rep_one, List.append_nil, far, List.append_assoc]
section
variable {P : Program} {w : World} {K : PySem.W.Frag} {mg : Str → Option Value} {base : Heap}
abbrev nSR : List Str := ["_law_generator_here", "_law_letters", "_law_head", "_law_part", "_law_tail", "_law_depth", "_law_least", "_law_many", "_law_far", "_law_kept"]
theorem scLawSteadyRight : FnScope nSR ["_law_generator_here", "_law_letters"] (defScope sLawSteadyRight) := fnScope_by (by decide +kernel)
def spSteadyRight : Sp := fun vs H Q _ => ∃ (g : Addr) (L : Tx) (k : Nat), vs = [.ref g, tV L] ∧ Alp L ∧ k ≤ 800000 ∧ GenAt H g k ∧ ∀ H', But g H H' → Q (.bl true) H'
theorem c_law_steady_right (C : Ctx K mg) : Cal P w K mg base 8 "_law_steady_right" spSteadyRight [] := by
  refine (fLawSteadyRight C).cal scLawSteadyRight (fun _ _ _ _ _ _ us hl => match us, hl with | [_, _], _ => rfl) (fun vs H Q E h => ?_) (fun cdv A outer s H vs Q E hr h => ?_)
  · obtain ⟨g, L, k, rfl, _⟩ := h
    rfl
  obtain ⟨g, L, k, rfl, hL, hk, hg, q⟩ := h
  have nd := scLawSteadyRight.nd
  refine ⟨_, pss_cons (ps_asg (pe_tup (pa_cons (pe_c (c_law_text C) hr (by decide) (by rfl) (pa_cons (pv 0) (pa_cons (pv 1) (pa_cons pe_int pa_nil)))) (pa_cons (pe_c (c_law_text C) hr (by decide) (by rfl) (pa_cons (pv 0) (pa_cons (pv 1) (pa_cons pe_int pa_nil)))) (pa_cons (pe_c (c_law_text C) hr (by decide) (by rfl) (pa_cons (pv 0) (pa_cons (pv 1) (pa_cons pe_int pa_nil)))) pa_nil))))
      (pg_tup (by rfl) (pgs_cons (pg_name (i := 2) nd rfl (Or.inr rfl)) (pgs_cons (pg_name (i := 3) nd rfl (Or.inr rfl)) (pgs_cons (pg_name (i := 4) nd rfl (Or.inr rfl)) pgs_nil)))))
    (pss_cons (ps_set (i := 5) nd rfl (Or.inl rfl) (pe_op op_add pe_int (pe_c (c_law_random C) hr (by decide) (by rfl) (pa_cons (pv 0) (pa_cons pe_int pa_nil)))))
    (pss_cons (ps_set (i := 6) nd rfl (Or.inl rfl) (pe_c (c_steady_from C) hr (by decide) (by rfl) (pa_cons (pv 5) (pa_cons (pv 2) (pa_cons (pv 3) (pa_cons (pv 4) pa_nil))))))
    (pss_cons (ps_setLc (i := 8) (own := [("_law_many", 7)]) (g := gName 7) (by rfl) nd rfl rfl (sw_true rfl rfl rfl (by decide +kernel)) (pi_range1 rfl (b_range C) (pa_cons (pe_op op_add (pv 5) pe_int) pa_nil))
        (blkOk_by (own := [("_law_many", 7)]) (N := nSR) (sc := defScope sLawSteadyRight) (by decide +kernel))
        (fun _ _ _ _ _ => pg_name (i := 7) nd rfl (Or.inl rfl)) (fun _ _ _ _ _ => pts_nil)
        (fun _ _ _ _ _ => pe_op op_add_str (pe_op op_add_str (pv 2) (pe_op op_mulS (pv 3) (pv 7))) (pv 4)))
    (pss_cons (ps_set (i := 9) nd rfl (Or.inl rfl) (pe_mk (c_init C) hr (by decide) (by rfl) (pa_cons (pe_lst (pa_cons (pe_tup (pa_cons (pv 2) (pa_cons pe_int pa_nil))) (pa_cons (pe_tup (pa_cons (pv 3) (pa_cons (pe_op op_pow pe_int pe_int) pa_nil))) (pa_cons (pe_tup (pa_cons (pv 4) (pa_cons pe_int pa_nil))) pa_nil)))) pa_nil)))
    (pss_cons (ps_if (PW.pt (pw_or (pt_not (pt_chain op_le op_le pe_int (pv 6) (pv 5)))
        (pw_or1 (pt_cmpR (op_neD hr.units) (pe_c (c_law_had C) hr (by decide) (by rfl) (pa_cons (pv 1) (pa_cons (pv 9) (pa_cons (pv 5) pa_nil)))) (pe_c (c_reads C) hr (by decide) (by rfl) (pa_cons (pv 5) (pa_cons (pe_ix ix_list (pv 8) (pv 6) (fun _ _ => rfl)) pa_nil))) (nomark _))))) (pss_one ps_never) pss_nil)
    (pss_cons (ps_for PassesOwn.never rfl (pi_range1 rfl (b_range C) (pa_cons (pe_op op_add (pv 5) pe_int) pa_nil)) (pg_name (i := 7) nd rfl (Or.inl rfl))
      (pss_one (ps_if (PW.pt (pw_and (pt_cmpR op_ge (pv 7) (pv 6) (nomark _)) (pw_and1 (pt_cmpR (op_neD hr.units) (pe_c (c_reads C) hr (by decide) (by rfl) (pa_cons (pv 5) (pa_cons (pe_ix ix_list (pv 8) (pv 7) (fun _ _ => rfl)) pa_nil)))
        (pe_c (c_reads C) hr (by decide) (by rfl) (pa_cons (pv 5) (pa_cons (pe_ix ix_list (pv 8) (pe_un un_neg pe_int) (fun _ _ => rfl)) pa_nil))) (nomark _))))) (pss_one ps_never) pss_nil)))
    (pss_one (ps_ret (pe_or (pe_cmpR op_eq (pv 6) pe_int (nomark _)) (pe_one (pe_cmpR (op_neD hr.units) (pe_c (c_reads C) hr (by decide) (by rfl) (pa_cons (pv 5) (pa_cons (pe_ix ix_list (pv 8) (pe_op op_sub (pv 6) pe_int) (fun _ _ => rfl)) pa_nil)))
        (pe_c (c_reads C) hr (by decide) (by rfl) (pa_cons (pv 5) (pa_cons (pe_ix ix_list (pv 8) (pe_un un_neg pe_int) (fun _ _ => rfl)) pa_nil))) (nomark _)))))))))))), ?_⟩
  refine ⟨.ref g, rfl, tV L, rfl, g, L, 4, k, rfl, hL, by omega, by omega, hg, fun h H1 hl hc b1 g1 => ?_⟩
  refine ⟨.ref g, rfl, tV L, rfl, g, L, 4, k + 50, rfl, hL, by omega, by omega, g1, fun p H2 pl pc b2 g2 => ?_⟩
  refine ⟨.ref g, rfl, tV L, rfl, g, L, 4, k + 100, rfl, hL, by omega, by omega, g2, fun t H3 tl tc b3 g3 => ?_⟩
  refine ⟨by show 3 ≤ sizeLine; decide, fun T hT => ⟨T, _, rfl, st upd_same, rfl, _, _, rfl, _, _, rfl, _, [], rfl, rfl, ?_⟩⟩
  have bT : But g H (upd H3 T (.tup [tV h, tV p, tV t])) := ((b1.trans b2).trans b3).trans (.of (sm_new hT _))
  have gT := g3.upd (o := .tup [tV h, tV p, tV t]) (g3.ne hT)
  generalize upd H3 T (.tup [tV h, tV p, tV t]) = H4 at bT gT
  refine ⟨.ref g, rfl, g, 3, k + 150, rfl, by decide, by decide, by omega, gT, fun r H5 hr3 b5 g5 => ?_⟩
  have bH := bT.trans b5
  have hAb := hL.abc hc
  have pAb := hL.abc pc
  have tAb := hL.abc tc
  refine ⟨_, _, rfl, rfl, ?_⟩
  refine ⟨nat (1 + r), rfl, tV h, rfl, tV p, rfl, tV t, rfl, 1 + r, h, p, t, rfl, by omega, ⟨by omega, by omega, by omega⟩, ⟨hAb, pAb, tAb⟩, fun m H6 s6 st6 => ?_⟩
  have hm := st6.le
  have flen : ∀ j, j ≤ 4 → (far h p t j).length ≤ 24 := fun j hj => far_len hl pl tl hj
  have flet : ∀ j, ∀ c ∈ far h p t j, c ∈ L := fun j c hc' => (far_mem hc').elim (hc c) fun z => z.elim (pc c) (tc c)
  -- the far ones
  refine ⟨nat (1 + r), rfl, _, _, rfl, rfl, _, rfl, by omega, by omega, fun F hF => ?_⟩
  have e2 : (((1 + r : Nat) : Int) + 2).toNat = r + 3 := by omega
  rw [e2]
  refine lc_vals (walk_range (lo := 0) (n := r + 3)) (xs := (List.range (r + 3)).map fun j => tV (far h p t j)) (by simp) (by omega) hF (fun _ _ => trivial) (fun j v x H7 H8 hv hj s7 y => ?_) (fun H7 s7 hF7 => ?_)
  · obtain ⟨rfl, rfl⟩ := y
    rw [List.getElem?_map, List.getElem?_range hj] at hv
    obtain rfl : tV (far h p t j) = v := Option.some.inj hv
    have hfl := flen j (by omega)
    rw [far, List.length_append, List.length_append] at hfl
    refine ⟨Same.refl _, fun R E hR => ⟨rfl, tV h, rfl, tV p, rfl, .int (0 + ((j : Nat) : Int)), rfl, p, j, rfl, by rw [Int.zero_add], by omega, by omega, S h, S (rep p j), rfl, rfl, ?_, ?_⟩⟩
    · rw [S_len, S_len]
      exact small (by omega)
    · refine ⟨tV t, rfl, _, S t, rfl, rfl, ?_, ?_⟩
      · rw [S_cat, S_len, S_len, List.length_append]
        exact small (by omega)
      · rw [S_cat, S_cat]
        exact hR _ (Same.refl _)
  have hat : ∀ j, j < r + 3 → atI ((List.range (r + 3)).map fun j => tV (far h p t j)) ((j : Nat) : Int) = some (tV (far h p t j)) := fun j hj => atI_nat (by rw [List.getElem?_map, List.getElem?_range hj]; rfl)
  have hlast : atI ((List.range (r + 3)).map fun j => tV (far h p t j)) (-1) = some (tV (far h p t (r + 2))) := last_at (by rw [List.getLast?_eq_getElem?, List.length_map, List.length_range, List.getElem?_map, List.getElem?_range (by omega)]; rfl)
  -- the kept one
  refine ⟨tV h, rfl, by show 2 ≤ sizeLine; decide, fun T1 hT1 => ?_⟩
  have t1 := sm_new hT1 (.tup [tV h, V.int 1])
  refine ⟨tV p, rfl, _, _, rfl, rfl, ⟨by decide, by decide, by decide⟩, by show 2 ≤ sizeLine; decide, fun T2 hT2 => ?_⟩
  have t2 := sm_new hT2 (.tup [tV p, nat (10 ^ 29)])
  refine ⟨tV t, rfl, by show 2 ≤ sizeLine; decide, fun T3 hT3 => ?_⟩
  have t3 := sm_new hT3 (.tup [tV t, V.int 1])
  refine ⟨by show 3 ≤ sizeLine; decide, fun A hA => ?_⟩
  have t4 := sm_new hA (.lst [V.ref T1, V.ref T2, V.ref T3])
  have hT := tups3 (K := K) (t4 _ _ (t3 _ _ (t2 _ _ upd_same))) (t4 _ _ (t3 _ _ upd_same)) (t4 _ _ upd_same) ⟨hl, hAb⟩ ⟨pl, pAb⟩ ⟨tl, tAb⟩ (n := 1) (m := 10 ^ 29) (k := 1) ⟨by decide, by decide, by decide⟩
  have sA := ((t1.trans t2).trans t3).trans t4
  intro x dx hx hdx ndx
  refine init_ok hx hdx ndx (ts := [T1, T2, T3]) upd_same hT (by show 3 * (1 + 10 * 0) ≤ 10 * (0 + 1); decide) (by show 3 ≤ 4; decide) (by decide) ?_ fun pp cc sz H9 s9 hK hpl hcl hPart => ?_
  · rw [whole3, far, List.length_append, List.length_append, rep_len]
    have e30 : 10 ^ 29 * p.length ≤ 10 ^ 29 * 4 := Nat.mul_le_mul_left _ pl
    omega
  rw [whole3] at hPart
  have s79 := sA.trans s9
  have hF9 := s79 _ _ hF7
  have bAll : But g H H9 := bH.trans (.of ((s6.trans s7).trans s79))
  have er : ∀ u v : Tx, Alike (1 + r) u v → (wordsTo L (1 + r + 1)).filter (isRead u) = (wordsTo L (1 + r + 1)).filter (isRead v) := fun u v a => read_of_alike a (Nat.le_refl _)
  refine ⟨nat m, rfl, _, _, rfl, rfl, true, bl_t (by omega), iteT ⟨nat (1 + r), rfl, _, _, rfl, rfl, true, bl_t (by omega), iteF ?_⟩⟩
  refine ⟨tV L, rfl, .ref x, rfl, nat (1 + r), rfl, L, .ref x, 1 + r, 0, _, rfl, hL, by omega, by omega, hPart, fun R1 HA nA sa hRa => ?_⟩
  refine ⟨nat (1 + r), rfl, .ref F, rfl, nat m, rfl, F, _, _, _, rfl, rfl, sq (sa _ _ hF9), hat m (by omega), ?_⟩
  refine ⟨L, far h p t m, 1 + r, rfl, hL, flet m, by have := flen m (by omega); omega, by omega, fun R2 HB nB sb hRb => ?_⟩
  refine ne_texts (sq (sb _ _ hRa)) (sq hRb) (sml_words hL (by omega) _) (sml_words hL (by omega) _) ⟨false, ?_, iteF ?_⟩
  · have a1 : Alike (1 + r) (far h p t (10 ^ 29)) (far h p t m) := (far_alike h p t (by omega) (Nat.le_refl _)).trans (st6.on m (Nat.le_refl _) hm).symm
    rw [er _ _ a1]
    exact bl_same _
  have s9B := sa.trans sb
  refine ⟨nat (1 + r), rfl, _, _, rfl, rfl, _, rfl, by omega, by omega, for_range (lo := 0) (fun i σ H' => ∃ v : Option V, σ = [some (.ref g), some (tV L), some (tV h), some (tV p), some (tV t), some (nat (1 + r)), some (nat m), v, some (.ref F), some (.ref x)] ∧ Same H9 H') ⟨_, rfl, s9B⟩ (fun i σ H' hi pp => ?_) (fun σ H' pp => ?_)⟩
  · obtain ⟨v, rfl, sm⟩ := pp
    have hi3 : i < r + 3 := by omega
    have hF' := sm _ _ hF9
    refine ⟨.int (0 + ((i : Nat) : Int)), rfl, nat m, rfl, _, _, rfl, rfl, _, rfl, ?_⟩
    by_cases hmi : m ≤ i
    · rw [decide_eq_true (show ((m : Nat) : Int) ≤ 0 + ((i : Nat) : Int) by omega)]
      refine iteT ?_
      refine ⟨nat (1 + r), rfl, .ref F, rfl, .int (0 + ((i : Nat) : Int)), rfl, F, _, _, _, rfl, rfl, sq hF', by rw [Int.zero_add]; exact hat i hi3, ?_⟩
      refine ⟨L, far h p t i, 1 + r, rfl, hL, flet i, by have := flen i (by omega); omega, by omega, fun R3 HC nC sc hRc => ?_⟩
      refine ⟨nat (1 + r), rfl, .ref F, rfl, 1, rfl, F, _, _, _, rfl, rfl, sq (sc _ _ hF'), hlast, ?_⟩
      refine ⟨L, far h p t (r + 2), 1 + r, rfl, hL, flet (r + 2), by have := flen (r + 2) (by omega); omega, by omega, fun R4 HD nD sd hRd => ?_⟩
      refine ne_texts (sq (sd _ _ hRc)) (sq hRd) (sml_words hL (by omega) _) (sml_words hL (by omega) _) ⟨false, ?_, iteF ?_⟩
      · have a1 := st6.upto hmi
        rw [show 1 + r + 1 = r + 2 by omega] at a1
        rw [er _ _ a1]
        exact bl_same _
      · exact ⟨_, rfl, sm.trans (sc.trans sd)⟩
    · rw [decide_eq_false (show ¬ ((m : Nat) : Int) ≤ 0 + ((i : Nat) : Int) by omega)]
      refine iteF (iteF ?_)
      exact ⟨_, rfl, sm⟩
  · obtain ⟨v, rfl, sm⟩ := pp
    have hF' := sm _ _ hF9
    have b' : But g H H' := bAll.trans (.of sm)
    refine ⟨nat m, rfl, rfl, _, rfl, ?_⟩
    by_cases hm0 : m = 0
    · subst hm0
      exact iteT (q H' b')
    · rw [decide_eq_false (show ¬ nat m = V.int 0 from fun z => hm0 (by have := V.int.inj z; omega))]
      refine iteF ?_
      have em : ((m : Nat) : Int) - 1 = ((m - 1 : Nat) : Int) := by omega
      refine ⟨nat (1 + r), rfl, .ref F, rfl, nat m, rfl, _, _, rfl, rfl, F, _, _, _, rfl, rfl, sq hF', by rw [em]; exact hat (m - 1) (by omega), ?_⟩
      refine ⟨L, far h p t (m - 1), 1 + r, rfl, hL, flet (m - 1), by have := flen (m - 1) (by omega); omega, by omega, fun R3 HC nC sc hRc => ?_⟩
      refine ⟨nat (1 + r), rfl, .ref F, rfl, 1, rfl, F, _, _, _, rfl, rfl, sq (sc _ _ hF'), hlast, ?_⟩
      refine ⟨L, far h p t (r + 2), 1 + r, rfl, hL, flet (r + 2), by have := flen (r + 2) (by omega); omega, by omega, fun R4 HD nD sd hRd => ?_⟩
      refine ne_texts (sq (sd _ _ hRc)) (sq hRd) (sml_words hL (by omega) _) (sml_words hL (by omega) _) ?_
      refine qNT (Q := Q) (fun e => ?_) (q HD (b'.trans (.of (sc.trans sd))))
      have a1 := st6.not hm0
      rw [show 1 + r + 1 = r + 2 by omega] at a1
      exact a1 (alike_of_read (L := L) (flet _) (flet _) e)
end
end Sk
end
section
set_option Elab.async false
set_option linter.all false
set_option maxRecDepth 100000
set_option maxHeartbeats 4000000
namespace Sk
open PySem PySem.Spec PyProof.Rows L2 SX C8
/-- what is frozen stays -/
def FZ (H H' : Hp) : Prop := ∀ b o u, H b = some (.frz o u) → H' b = some (.frz o u)
theorem FZ.refl (H : Hp) : FZ H H := fun _ _ _ h => h
theorem FZ.trans {H H1 H2 : Hp} (a : FZ H H1) (b : FZ H1 H2) : FZ H H2 := fun c o u h => b c o u (a c o u h)
theorem FZ.of {H H' : Hp} (s : Same H H') : FZ H H' := fun b o u h => s b _ h
theorem FZ.dk {H H' : Hp} (d : DK H H') : FZ H H' := fun b o u h => d b _ h fun kvs e => nomatch e
theorem FZ.gen {H H' : Hp} {g : Addr} {k : Nat} (b : But g H H') (h : GenAt H g k) : FZ H H' := fun c o u hc => b c _ hc fun e => by
  obtain ⟨n, s, c', h1, _⟩ := h
  rw [e, h1] at hc
  cases hc
theorem scr_keep {K : PySem.W.Frag} {H H' : Hp} {a : Addr} {xs : List V} (o : Only H) (h : SqL K H a xs) (f : FZ H H') : SqL K H' a xs := by
  rcases h with (h | ⟨ob, h⟩) | h
  · rcases o a with e | ⟨ob, ys, e⟩
    · rw [h] at e
      cases e
    · rw [h] at e
      cases e
  · exact .inl (.inr ⟨ob, f _ _ _ h⟩)
  · exact .inr h
/-- a statement whose ways meet again -/
def tJoin (t : TS) : TS := fun D σ H => ∃ G : L2.St → Hp → Prop, t { D with nx := G } σ H ∧ ∀ σ' H', G σ' H' → D.nx σ' H'
theorem ps_join {X : Cx} {s : Stmt} {t : TS} (h : PS X s t) : PS X s (tJoin t) := by
  refine ⟨fun pins sh σ H D I hj => ?_⟩
  obtain ⟨G, h1, h2⟩ := hj
  refine thn (h.run pins sh σ H { D with nx := G } I h1) fun f s1 q => ?_
  cases f with
  | next =>
    obtain ⟨σ', H', I', q⟩ := q
    exact ⟨σ', H', I', h2 _ _ q⟩
  | ret v => exact q
  | brk => exact q
  | cont => exact q
theorem Pcs.tups {K : PySem.W.Frag} {L : Tx} {H : Hp} {ts : List Addr} {its : List Pc} (hL : Alp L) (h : Pcs L H ts its) : Tups (Part K 0 H) H ts its :=
  ⟨h.1, fun i q e => by
    obtain ⟨a, h1, h2, h3, ⟨h4, h5⟩, h6⟩ := h.2 i q e
    have p29 : 10 ^ 29 < 2 ^ 100 := by decide
    exact ⟨a, h1, h2, ⟨h3, h4, hL.abc h5⟩, by omega⟩⟩
theorem Pcs.wlen {L : Tx} {H : Hp} {ts : List Addr} {its : List Pc} (h : Pcs L H ts its) (h4 : its.length ≤ 4) : (whole its).length ≤ 16 * 10 ^ 29 := by
  rw [whole_len]
  have h1 : ∀ m ∈ its.map (fun q => q.2.2.length * q.2.1), m ≤ 4 * 10 ^ 29 := fun m hm => by
    obtain ⟨q, hq, rfl⟩ := List.mem_map.mp hm
    obtain ⟨i, hi⟩ := List.mem_iff_getElem?.mp hq
    obtain ⟨a, _, _, _, ⟨h5, _⟩, h6⟩ := h.2 i q hi
    exact Nat.mul_le_mul h5 h6
  have h2 := sum_le h1
  rw [List.length_map] at h2
  have h3 : its.length * (4 * 10 ^ 29) ≤ 4 * (4 * 10 ^ 29) := Nat.mul_le_mul_right _ h4
  exact Nat.le_trans h2 (Nat.le_trans h3 (by decide))
theorem tups1 {K : PySem.W.Frag} {H : Hp} {T x : Addr} {o : Nat} {t : Tx} (hT : H T = some (.tup [.ref x, nat o])) (hp : Part K 1 H (.ref x) t) (ho : o < 2 ^ 100) : Tups (Part K 1 H) H [T] [(.ref x, o, t)] := by
  refine ⟨rfl, fun i q e => ?_⟩
  rcases i with _ | i
  · obtain rfl := Option.some.inj e
    exact ⟨T, rfl, hT, hp, ho⟩
  · cases e
theorem whole1 (v : V) (o : Nat) (t : Tx) : whole [(v, o, t)] = rep t o := by
  show rep t o ++ [] = _
  rw [List.append_nil]
section
variable {P : Program} {w : World} {K : PySem.W.Frag} {mg : Str → Option Value} {base : Heap}
abbrev nLaw : List Str := ["_law_script", "_law_index", "_law_generator_here", "_law_letters", "_law_pieces_here", "_law_outer", "_law_kept"]
theorem scLaw : FnScope nLaw ["_law_script"] (defScope sLaw) := fnScope_by (by decide +kernel)
def spLaw (K : PySem.W.Frag) : Sp := fun vs H Q _ => ∃ (a : Addr) (ns : List Int), vs = [.ref a] ∧ Only H ∧ SqL K H a (ns.map V.int) ∧ ∀ H', Q (.bl true) H'
theorem fun_ok {x : Str} {st : Stmt} {N ps : List Str} {k : Nat} {sp : Sp} {fd : FuncData} (F : FunD K x x (defArgs st) (defBody st) (defScope st) [] [] (He.ga K x) fd) (S : FnScope N ps (defScope st))
    (len : ∀ vs H Q E, sp vs H Q E → vs.length = ps.length)
    (hbody : ∀ (cdv : Value) (A : Around) (outer : List Env) (s : Shared) (H : Hp) (vs : List V) (Q : VK) (E : XK), Room k (A.deeper (envOfC x (defScope st) s.heap.objs.size (He.ga K x) cdv)) → sp vs H Q E →
      ∃ t, PSs (cxOf C8.CX0 P w K mg base N x (defScope st) (He.ga K x) cdv A outer s H E).nox (defBody st) t ∧ t { nx := fun _ H' => Q .non H', rt := Q } (start N vs) H) : FnOk P w K mg base C8.CX0 (k + 1) (He.ga K x) fd ps sp :=
  F.ok S len fun cdv A outer s H vs Q E hr h => by
    obtain ⟨t, h1, h2⟩ := hbody cdv A outer s H vs Q E hr h
    exact ⟨t, h1.nox, h2⟩
theorem law_ok (C : Ctx K mg) {fd : FuncData} (F : FunD K "law" "law" (defArgs sLaw) (defBody sLaw) (defScope sLaw) [] [] (He.ga K "law") fd) : FnOk P w K mg base C8.CX0 9 (He.ga K "law") fd ["_law_script"] (spLaw K) := by
  refine fun_ok F scLaw (fun vs H Q E h => ?_) (fun cdv A outer s H vs Q E hr h => ?_)
  · obtain ⟨a, ns, rfl, _⟩ := h
    rfl
  obtain ⟨a, ns, rfl, hO, ha, q⟩ := h
  have nd := scLaw.nd
  refine ⟨_, pss_cons (ps_for PassesOwn.never rfl (pi_range1 rfl (b_range C) (pa_cons pe_int pa_nil)) (pg_name (i := 1) nd rfl (Or.inl rfl))
      (pss_cons (ps_set (i := 2) nd rfl (Or.inl rfl) (pe_c (c_law_generator C) hr (by decide) (by rfl) (pa_cons (pv 0) (pa_cons (pv 1) pa_nil))))
      (pss_cons (ps_set (i := 3) nd rfl (Or.inl rfl) (pe_ix ix_list (pe_lst (pa_cons pe_str (pa_cons pe_str pa_nil))) (pe_c (c_law_random C) hr (by decide) (by rfl) (pa_cons (pv 2) (pa_cons pe_int pa_nil))) (fun _ _ => rfl)))
      (pss_cons (ps_par (i := 4) (j := 5) rfl nd rfl rfl (by decide) rfl rfl (pa_cons (pe_c (c_law_pieces C) hr (by decide) (by rfl) (pa_cons (pv 2) (pa_cons (pv 3) pa_nil))) (pa_cons pe_int pa_nil)) rfl)
      (pss_cons (ps_set (i := 6) nd rfl (Or.inl rfl) (pe_mk (c_init C) hr (by decide) (by rfl) (pa_cons (pe_callTy (callListOf (K := K) rfl) (by rfl) (b_list C) PyProof.Rows.boot_list (pa_cons (pv 4) pa_nil)) pa_nil)))
      (pss_cons (ps_join (ps_if (pt_cmpR op_eq (pe_c (c_law_random C) hr (by decide) (by rfl) (pa_cons (pv 2) (pa_cons pe_int pa_nil))) pe_int (nomark _))
          (pss_cons (ps_set (i := 5) nd rfl (Or.inl rfl) (pe_c (c_law_times C) hr (by decide) (by rfl) (pa_cons (pv 2) pa_nil)))
          (pss_one (ps_set (i := 6) nd rfl (Or.inl rfl) (pe_mk (c_init C) hr (by decide) (by rfl) (pa_cons (pe_lst (pa_cons (pe_tup (pa_cons (pv 6) (pa_cons (pv 5) pa_nil))) pa_nil)) pa_nil))))) pss_nil))
      (pss_cons (ps_if (pt_not (pt_val (pe_c (c_law_kept_right C) hr (by decide) (by rfl) (pa_cons (pv 3) (pa_cons (pv 6) (pa_cons (pe_op op_mulS (pe_c (c_law_cut C) hr (by decide) (by rfl) (pa_cons (pv 4) (pa_cons pe_int pa_nil))) (pe_callB (call_min2 rfl) (by rfl) (b_min C) boot_min (pa_cons (pv 5) (pa_cons pe_int pa_nil)))) pa_nil)))))) (pss_one ps_never) pss_nil)
      (pss_one (ps_if (PW.pt (pw_or (pt_not (pt_val (pe_c (c_law_forms_right C) hr (by decide) (by rfl) (pa_cons (pv 2) (pa_cons (pv 4) (pa_cons (pv 5) (pa_cons (pv 3) pa_nil)))))))
        (pw_or1 (pt_not (pt_val (pe_c (c_law_steady_right C) hr (by decide) (by rfl) (pa_cons (pv 2) (pa_cons (pv 3) pa_nil)))))))) (pss_one ps_never) pss_nil)))))))))
    (pss_one (ps_ret (pe_and (pe_cmpR op_eq (pe_c (c_steady_from C) hr (by decide) (by rfl) (pa_cons pe_int (pa_cons pe_str (pa_cons pe_str (pa_cons pe_str pa_nil))))) pe_int (nomark _))
      (pe_one (pe_cmpR op_eq (pe_c (c_least_form C) hr (by decide) (by rfl) (pa_cons pe_int (pa_cons pe_str pa_nil))) pe_str (nomark _)))))), ?_⟩
  refine ⟨_, rfl, by decide, by decide, for_range (lo := 0) (fun i σ H' => ∃ v1 v2 v3 v4 v5 v6 : Option V, σ = [some (.ref a), v1, v2, v3, v4, v5, v6] ∧ FZ H H') ⟨none, none, none, none, none, none, rfl, FZ.refl H⟩ (fun i σ H1 hi p => ?_) (fun σ H' p => ?_)⟩
  · obtain ⟨v1, v2, v3, v4, v5, v6, rfl, fz⟩ := p
    have hi2 : i < 2 := hi
    have p29 : 10 ^ 29 < 2 ^ 100 := by decide
    refine ⟨.ref a, rfl, .int (0 + ((i : Nat) : Int)), rfl, a, ns, i, by rw [Int.zero_add]; rfl, scr_keep hO ha fz, by omega, fun g H2 ng s2 g2 => ?_⟩
    refine ⟨by show 2 ≤ sizeLine; decide, fun p hp => ?_⟩
    have s3 := sm_new hp (.lst [V.str "ab", V.str "abc"])
    have npg := g2.ne hp
    have g3 : GenAt (upd H2 p (.lst [V.str "ab", V.str "abc"])) g 1000 := g2.same s3
    have p3 : (upd H2 p (.lst [V.str "ab", V.str "abc"])) p = some (.lst [V.str "ab", V.str "abc"]) := upd_same
    refine ⟨.ref g, rfl, g, 2, 1000, rfl, by decide, by decide, by omega, g3, fun r H4 hr2 b4 g4 => ?_⟩
    have p4 := b4 _ _ p3 npg
    have f4 : FZ H1 H4 := ((FZ.of s2).trans (.of s3)).trans (.gen b4 g3)
    obtain ⟨L, hL, hget⟩ : ∃ L, Alp L ∧ ([V.str "ab", V.str "abc"])[r]? = some (tV L) := by
      rcases (show r = 0 ∨ r = 1 by omega) with rfl | rfl
      · exact ⟨[97, 98], .inl rfl, by decide +kernel⟩
      · exact ⟨[97, 98, 99], .inr rfl, by decide +kernel⟩
    refine ⟨p, _, _, tV L, rfl, rfl, sq p4, atI_nat hget, ?_⟩
    refine ⟨.ref g, rfl, tV L, rfl, g, L, 1010, rfl, hL, by omega, g4, fun D ts its H5 nD b5 g5 hD hpc h4 => ?_⟩
    have f5 := f4.trans (.gen b5 g4)
    refine ⟨_, _, rfl, ?_⟩
    refine ⟨.ref D, rfl, D, _, rfl, .inl (sq hD), fun l hl => ?_⟩
    have s6 := sm_new hl (.lst (ts.map V.ref))
    intro x dx hx hdx ndx
    refine init_ok (n := 0) hx hdx ndx (ts := ts) (its := its) upd_same ((hpc.keep (.of s6)).tups hL) (by omega) h4 (by decide) ?_ fun pp cc sz H7 s7 hK hpl hcl hPart => ?_
    · have := hpc.wlen h4
      have p60 : 16 * 10 ^ 29 ≤ 10 ^ 60 := by decide
      omega
    have s67 := s6.trans s7
    have f7 := f5.trans (.of s67)
    have g7 := g5.same s67
    have nxg : x ≠ g := by
      obtain ⟨n, z, c, h1, _⟩ := g5
      exact (ne_of_none (s6 _ _ h1) hx).symm
    have wl := hpc.wlen h4
    refine ⟨fun σ H' => ∃ (o : Nat) (y : Addr), σ = [some (.ref a), some (.int (0 + ((i : Nat) : Int))), some (.ref g), some (tV L), some (.ref D), some (nat o), some (.ref y)] ∧ GenAt H' g 3000 ∧ H' D = some (.lst (ts.map V.ref)) ∧ Pcs L H' ts its ∧ Live K [] H' (.ref y) (rep (whole its) o) ∧ FZ H1 H', ?_, fun σ H' p => ?_⟩
    · refine ⟨.ref g, rfl, g, 2, 1010 + 400, rfl, by decide, by decide, by omega, g7, fun r8 H8 hr8 b8 g8 => ?_⟩
      have k8 := g7.keep b8
      have nDg : D ≠ g := by
        obtain ⟨n, z, c, h1, _⟩ := g4
        exact (ne_of_none h1 nD).symm
      have D8 := b8 _ _ (s67 _ _ hD) nDg
      have pc8 := (hpc.keep (.of s67)).keep k8
      have part8 := hPart.keep k8
      have f8 := f7.trans (.gen b8 g7)
      have x8 := b8 _ _ hK nxg
      have ncg : cc ≠ g := by
        obtain ⟨n, z, c, h1, _⟩ := g7
        exact (ne_of h1 hcl (by intro z; cases z)).symm
      have c8 := b8 _ _ hcl ncg
      refine ⟨rfl, _, rfl, ?_⟩
      by_cases e0 : r8 = 0
      · subst e0
        rw [decide_eq_true (show nat 0 = V.int 0 from rfl)]
        refine iteT ?_
        refine ⟨.ref g, rfl, g, _, rfl, by omega, g8, fun o H9 ho b9 g9 => ?_⟩
        have k9 := g8.keep b9
        have D9 := b9 _ _ D8 nDg
        have pc9 := pc8.keep k9
        have part9 := part8.keep k9
        have f9 := f8.trans (.gen b9 g8)
        have x9 := b9 _ _ x8 nxg
        have c9 := b9 _ _ c8 ncg
        refine ⟨.ref x, rfl, nat o, rfl, by show 2 ≤ sizeLine; decide, fun T hT => ?_⟩
        have sT := sm_new hT (.tup [.ref x, nat o])
        refine ⟨by show 1 ≤ sizeLine; decide, fun A hA => ?_⟩
        have sA := sm_new hA (.lst [V.ref T])
        have sTA := sT.trans sA
        intro y dy hy hdy ndy
        refine init_ok (n := 1) hy hdy ndy (ts := [T]) (its := [(.ref x, o, whole its)]) upd_same (tups1 (sA _ _ upd_same) (part9.keep (.of sTA)) (by omega)) (by show 1 * (1 + 10 * 1) ≤ 10 * (1 + 1); decide) (by show 1 ≤ 4; decide) (by decide) ?_ fun p2 c2 sz2 H10 s10 hK2 hpl2 hcl2 hPart2 => ?_
        · rw [whole1, rep_len]
          have h1 : o * (whole its).length ≤ 10 ^ 29 * (16 * 10 ^ 29) := Nat.mul_le_mul ho wl
          have h2 : 10 ^ 29 * (16 * 10 ^ 29) ≤ 10 ^ 60 := by decide
          omega
        rw [whole1] at hK2 hPart2
        have sF := sTA.trans s10
        refine ⟨o, y, rfl, (g9.same sF).mono (by omega), sF _ _ D9, pc9.keep (.of sF), .inr ⟨y, x, cc, o, whole its, rfl, ?_, rfl, [], sF _ _ c9, Nat.le_refl _, fun w _ => rfl⟩, f9.trans (.of sF)⟩
        exact ⟨dy, p2, T, dx, _, _, _, _, _, _, hK2, hpl2, s10 _ _ (sA _ _ upd_same), part9.keep (.of sF), sF _ _ x9, by omega, hPart2⟩
      · rw [decide_eq_false (show ¬ nat r8 = V.int 0 from fun z => e0 (by have := V.int.inj z; omega))]
        refine iteF ?_
        exact ⟨1, x, rfl, g8.mono (by omega), D8, pc8, .inl (by rw [rep_one]; exact part8), f8⟩
    · obtain ⟨o, y, rfl, gg, hD', hpc', hlive, ff⟩ := p
      have hle : ∀ q ∈ its, q.2.2.length ≤ 4 := fun q hq => (hpc'.each q hq).1
      have hlet : ∀ c ∈ cutO its o 3, c ∈ L := fun c hc => by
        obtain ⟨q, hq, h⟩ := cutO_mem hc
        exact (hpc'.each q hq).2 c h
      have c3 : (cutT its 3).length ≤ 64 := by
        have h1 := cutT_len (m := 3) its hle
        have h2 : its.length * (4 * 3) ≤ 4 * (4 * 3) := Nat.mul_le_mul h4 (by omega)
        omega
      refine ⟨tV L, rfl, .ref y, rfl, .ref D, rfl, D, L, 3, ts, its, rfl, hD', hpc', h4, by decide, nat o, rfl, _, _, rfl, cutT its 3, min o 3, rfl, int_min o 3, by omega, by omega, ?_⟩
      refine ⟨L, .ref y, cutO its o 3, _, rfl, hL, hlive, cutO_alike (by decide) its o, cutO_sub its o 3, cutO_len o hle h4 (by decide), hlet, fun H11 dk => ⟨true, rfl, iteF ?_⟩⟩
      have D11 := dk.lst hD'
      have pc11 := hpc'.keep dk.keep
      have g11 := gg.dk dk
      refine ⟨.ref g, rfl, .ref D, rfl, nat o, rfl, tV L, rfl, .ref g, D, L, o, ts, its, rfl, hL, D11, pc11, h4, fun H12 s12 => ⟨true, rfl, iteF ?_⟩⟩
      have g12 := g11.same s12
      refine ⟨.ref g, rfl, tV L, rfl, g, L, 3000, rfl, hL, by omega, g12, fun H13 b13 => ⟨true, rfl, iteF ?_⟩⟩
      exact ⟨_, _, _, _, _, _, rfl, (((fz.trans ff).trans (.dk dk)).trans (.of s12)).trans (.gen b13 g12)⟩
  · refine ⟨2, [97, 97], [97, 98], [98, 98], by decide +kernel, by decide, ⟨by decide, by decide, by decide⟩, ⟨by unfold Abc; decide, by unfold Abc; decide, by unfold Abc; decide⟩, fun m H2 s2 st2 => ?_⟩
    obtain rfl := steady_two st2
    refine ⟨rfl, true, rfl, iteT ?_⟩
    refine ⟨2, [97, 98, 98, 97], by decide +kernel, by decide, by unfold Abc; decide, fun l H3 s3 f3 => ?_⟩
    obtain rfl := form_abba f3
    exact ⟨rfl, qT (Q := Q) (by decide +kernel) (q H3)⟩
end
end Sk
end
section
set_option Elab.async false
set_option linter.all false
set_option maxRecDepth 100000
set_option maxHeartbeats 0
namespace Sk
open PySem PySem.Spec PyProof.Rows L2
abbrev R : PySem.W.OpenRow := PySem.W.OpenLaw.row PySem.Challenge.rw_skipcounts_k62_whole_kept_texts_and_what
abbrev hk : PySem.W.Hook := He.hookX 5 fa fn [] [] ex
def ob (s : PySem.W.SharedT) : He.AlX := He.obsX 5 fa fn [] [] ex (HandSHeadRun.getT s)
theorem ob_eq (s : PySem.W.SharedT) : ob s = hk.obs s.abs := He.obsX_eq (HandSHeadRun.getT_eq s)
theorem run (w : World) : HandSHeadRun.RunEq R (PySem.W.view R.prog [79]) hk ob 6000 names w := by
  intro os
  kernel_rfl
theorem facts {P : Program} {w : World} {K : PySem.W.Frag} {h : Heap} {mg : Str → Option Value} {f : Addr} (X : K.In h) (G : h.Ns mainGlobals mg) (hfa : mg ("law" : Str) = some (.ref f)) (c : He.SaysX fa fn [] [] ex w h K) :
    ∃ fd : FuncData, (∀ (s : Shared) (v : Value), BindsTo s fd ⟨[v], []⟩ [("_law_script", v)]) ∧ ∀ base : Heap, K.In base → base.Ns mainGlobals mg → FnOk P w K mg base C8.CX0 9 f fd ["_law_script"] (spLaw K) := by
  have C : Ctx K mg := ⟨⟨h, X, G⟩, c.t.d, c.more⟩
  obtain ⟨⟨fd, F⟩, hm⟩ := fLaw C
  have e := hfa.symm.trans hm
  cases e
  have b := FunD.bindsA (ps := ["_law_script"]) F fun _ _ _ _ _ _ us hl => match us, hl with | [_], _ => rfl
  exact ⟨fd, fun s v => b s [v] rfl, fun base _ _ => law_ok C F⟩
end Sk
open PySem PySem.W PySem.Calls PyProof.Rows
theorem PySem.Challenge.cw_skipcounts_k62_whole_kept_texts_and_what_holds : PySem.Challenge.rw_skipcounts_k62_whole_kept_texts_and_what.Holds := by
  w_on; o_law
  refine HandSHeadRun.head_any (r := Sk.R) (q := view Sk.R.prog [79]) (H := Sk.hk) (ob := Sk.ob) (M := 6000) (loose := Sk.names) (d := HandSHeadRun.topDef Sk.R.prog 79) (kwd := []) Sk.ob_eq
    (by kernel_rfl) (fun s => by kernel_rfl) Sk.run (by kernel_rfl) (by kernel_rfl) (by kernel_rfl) (by rfl) (by first | assumption | decide +kernel) (by decide +kernel) ⟨rfl, rfl, rfl, rfl, rfl, by decide +kernel⟩ ?hw ?hc
  case hw => w_witness2
  case hc =>
    refine L2.walk_ofE (l := PySem.Challenge.rw_skipcounts_k62_whole_kept_texts_and_what) (n := 63) (k := 9) (x := "_law_script") (CX := C8.CX0) rfl (by decide) (by kernel_rfl) ⟨rfl, by decide, by decide⟩ ?F (fun _ _ _ _ z => z)
    intro w mg fa h Y G hmg0
    obtain ⟨K, KX, c⟩ := Y
    have hmg : mg ("law" : PySem.Str) = some (.ref fa) := by
      have e : (HandSHeadRun.topDef Sk.R.prog 79).name = ("law" : PySem.Str) := by kernel_rfl
      rw [← e]
      exact hmg0
    obtain ⟨fd, hb, hF⟩ := Sk.facts (P := (PySem.Challenge.rw_skipcounts_k62_whole_kept_texts_and_what).prog) (w := w) KX G hmg c
    exact ⟨K, fd, Sk.spLaw K, KX, hb, fun H a ns hl hO hS => ⟨a, ns, rfl, hO, hS, fun _ => rfl⟩, hF⟩
end
