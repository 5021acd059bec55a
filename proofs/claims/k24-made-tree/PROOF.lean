import PyProof.Rows.All
import Wide.All
import OpenK.AllK
import Wide.FinOn
import HandS.ForMost
import HandS.IsInst
import HandS.TupAny
import HandS.TupLe
import HandS.Codes
import HandS.RevRange
import HandS.Style
import HandS.NoneIn

import KE.GoesNew
import KE.KDictOf
import HandS.StrMore
import HandS.Text
import HandS.More
import HandS.Rev
import PySem.Challenge.RW_ownglass_k24_made_tree
set_option Elab.async false
set_option linter.all false
set_option maxRecDepth 100000
set_option maxHeartbeats 4000000
/-! ### trees: words and lists -/
namespace OG
open PySem L2
inductive Tr where
  | w (s : Str)
  | l (ts : List Tr)
namespace Tr
mutual
def size : Tr → Nat
  | .w _ => 1
  | .l ts => sizes ts + 1
def sizes : List Tr → Nat
  | [] => 0
  | t :: ts => t.size + sizes ts
end
mutual
def depth : Tr → Nat
  | .w _ => 0
  | .l ts => depths ts + 1
def depths : List Tr → Nat
  | [] => 0
  | t :: ts => max t.depth (depths ts)
end
mutual
def beq : Tr → Tr → Bool
  | .w s, .w t => decide (s = t)
  | .l xs, .l ys => beqs xs ys
  | .w _, .l _ => false
  | .l _, .w _ => false
def beqs : List Tr → List Tr → Bool
  | [], [] => true
  | x :: xs, y :: ys => x.beq y && beqs xs ys
  | [], _ :: _ => false
  | _ :: _, [] => false
end
mutual
theorem beq_iff : ∀ a b : Tr, a.beq b = true ↔ a = b
  | .w s, .w t => by simp [beq]
  | .l xs, .l ys => by simp [beq, beqs_iff xs ys]
  | .w _, .l _ => by simp [beq]
  | .l _, .w _ => by simp [beq]
theorem beqs_iff : ∀ a b : List Tr, beqs a b = true ↔ a = b
  | [], [] => by simp [beqs]
  | x :: xs, y :: ys => by simp [beqs, beq_iff x y, beqs_iff xs ys]
  | [], _ :: _ => by simp [beqs]
  | _ :: _, [] => by simp [beqs]
end
instance : DecidableEq Tr := fun a b => decidable_of_iff (a.beq b = true) (beq_iff a b)
theorem size_pos : ∀ t : Tr, 0 < t.size
  | .w _ => by simp [size]
  | .l _ => by simp [size]
theorem sizes_append : ∀ xs ys : List Tr, sizes (xs ++ ys) = sizes xs + sizes ys
  | [], _ => by simp [sizes]
  | x :: xs, ys => by simp [sizes, sizes_append xs ys]; omega
theorem length_le_sizes : ∀ ts : List Tr, ts.length ≤ sizes ts
  | [] => by simp [sizes]
  | t :: ts => by have := length_le_sizes ts; have := size_pos t; simp [sizes]; omega
theorem size_mem : ∀ {ts : List Tr} {t : Tr}, t ∈ ts → t.size ≤ sizes ts
  | [], _, h => by cases h
  | x :: xs, t, h => by
    rcases List.mem_cons.mp h with e | e
    · subst e; simp [sizes]
    · have := size_mem e; simp [sizes]; omega
theorem depth_mem : ∀ {ts : List Tr} {t : Tr}, t ∈ ts → t.depth ≤ depths ts
  | [], _, h => by cases h
  | x :: xs, t, h => by
    rcases List.mem_cons.mp h with e | e
    · subst e; simp [depths]; omega
    · have := depth_mem e; simp [depths]; omega
theorem depths_le : ∀ {ts : List Tr} {n : Nat}, (∀ t ∈ ts, t.depth ≤ n) → depths ts ≤ n
  | [], _, _ => by simp [depths]
  | x :: xs, n, h => by
    have h1 := h x List.mem_cons_self
    have h2 := depths_le (ts := xs) (n := n) fun t ht => h t (List.mem_cons_of_mem _ ht)
    simp [depths]; omega
theorem sizes_le : ∀ {ts : List Tr} {n : Nat}, (∀ t ∈ ts, t.size ≤ n) → sizes ts ≤ ts.length * n
  | [], _, _ => by simp [sizes]
  | x :: xs, n, h => by
    have h1 := h x List.mem_cons_self
    have h2 := sizes_le (ts := xs) (n := n) fun t ht => h t (List.mem_cons_of_mem _ ht)
    simp only [sizes, List.length_cons, Nat.add_mul]; omega
end Tr
/-! ### a value that is a tree -/
mutual
def IsT (K : PySem.W.Frag) (H : Hp) : Tr → V → Prop
  | .w s, v => v = .str s
  | .l ts, v => ∃ a vs, v = .ref a ∧ SqT K H a vs ∧ IsTs K H ts vs
def IsTs (K : PySem.W.Frag) (H : Hp) : List Tr → List V → Prop
  | [], vs => vs = []
  | t :: ts, vs => ∃ v r, vs = v :: r ∧ IsT K H t v ∧ IsTs K H ts r
end
section
variable {K : PySem.W.Frag} {H H' : Hp}
theorem isT_w {s : Str} {v : V} : IsT K H (.w s) v ↔ v = .str s := by simp [IsT]
theorem isT_l {ts : List Tr} {v : V} : IsT K H (.l ts) v ↔ ∃ a vs, v = .ref a ∧ SqT K H a vs ∧ IsTs K H ts vs := by simp [IsT]
theorem isTs_nil {vs : List V} : IsTs K H [] vs ↔ vs = [] := by simp [IsTs]
theorem isTs_cons {t : Tr} {ts : List Tr} {vs : List V} : IsTs K H (t :: ts) vs ↔ ∃ v r, vs = v :: r ∧ IsT K H t v ∧ IsTs K H ts r := by simp [IsTs]
/-- what holds tuples goes on holding them -/
def TK (K : PySem.W.Frag) (H H' : Hp) : Prop := ∀ a xs, SqT K H a xs → SqT K H' a xs
theorem TK.refl : TK K H H := fun _ _ h => h
theorem TK.trans {H1 H2 : Hp} (a : TK K H H1) (b : TK K H1 H2) : TK K H H2 := fun x xs h => b x xs (a x xs h)
mutual
theorem IsT.tk (k : TK K H H') : ∀ {t : Tr} {v : V}, IsT K H t v → IsT K H' t v
  | .w s, v, h => isT_w.mpr (isT_w.mp h)
  | .l ts, v, h => by
    obtain ⟨a, vs, e, s, r⟩ := isT_l.mp h
    exact isT_l.mpr ⟨a, vs, e, k a vs s, IsTs.tk k r⟩
theorem IsTs.tk (k : TK K H H') : ∀ {ts : List Tr} {vs : List V}, IsTs K H ts vs → IsTs K H' ts vs
  | [], vs, h => isTs_nil.mpr (isTs_nil.mp h)
  | t :: ts, vs, h => by
    obtain ⟨v, r, e, h1, h2⟩ := isTs_cons.mp h
    exact isTs_cons.mpr ⟨v, r, e, IsT.tk k h1, IsTs.tk k h2⟩
end
theorem IsTs.length : ∀ {ts : List Tr} {vs : List V}, IsTs K H ts vs → vs.length = ts.length
  | [], vs, h => by rw [isTs_nil.mp h]; rfl
  | t :: ts, vs, h => by
    obtain ⟨v, r, rfl, _, h2⟩ := isTs_cons.mp h
    simp [IsTs.length h2]
theorem IsTs.get : ∀ {ts : List Tr} {vs : List V} {i : Nat} {t : Tr}, IsTs K H ts vs → ts[i]? = some t → ∃ v, vs[i]? = some v ∧ IsT K H t v
  | [], _, _, _, _, e => by simp at e
  | t :: ts, vs, 0, t', h, e => by
    obtain ⟨v, r, rfl, h1, _⟩ := isTs_cons.mp h
    simp at e; subst e
    exact ⟨v, by simp, h1⟩
  | t :: ts, vs, i + 1, t', h, e => by
    obtain ⟨v, r, rfl, _, h2⟩ := isTs_cons.mp h
    obtain ⟨u, e1, e2⟩ := IsTs.get (i := i) h2 (by simpa using e)
    exact ⟨u, by simpa using e1, e2⟩
theorem IsTs.tree {ts : List Tr} {vs : List V} {i : Nat} {v : V} (h : IsTs K H ts vs) (e : vs[i]? = some v) : ∃ t, ts[i]? = some t ∧ IsT K H t v := by
  have hi : i < ts.length := by rw [← h.length]; exact (List.getElem?_eq_some_iff.mp e).1
  obtain ⟨u, e1, e2⟩ := h.get (List.getElem?_eq_getElem hi)
  rw [e] at e1; cases e1
  exact ⟨_, List.getElem?_eq_getElem hi, e2⟩
theorem IsTs.append : ∀ {ts us : List Tr} {vs ws : List V}, IsTs K H ts vs → IsTs K H us ws → IsTs K H (ts ++ us) (vs ++ ws)
  | [], us, vs, ws, h, h' => by rw [isTs_nil.mp h]; exact h'
  | t :: ts, us, vs, ws, h, h' => by
    obtain ⟨v, r, rfl, h1, h2⟩ := isTs_cons.mp h
    exact isTs_cons.mpr ⟨v, r ++ ws, rfl, h1, IsTs.append h2 h'⟩
theorem IsTs.one {t : Tr} {v : V} (h : IsT K H t v) : IsTs K H [t] [v] := isTs_cons.mpr ⟨v, [], rfl, h, isTs_nil.mpr rfl⟩
theorem IsTs.cons {t : Tr} {v : V} {ts : List Tr} {vs : List V} (h : IsT K H t v) (h' : IsTs K H ts vs) : IsTs K H (t :: ts) (v :: vs) := isTs_cons.mpr ⟨v, vs, rfl, h, h'⟩
theorem IsTs.nil : IsTs K H [] [] := isTs_nil.mpr rfl
theorem IsTs.snoc {t : Tr} {v : V} {ts : List Tr} {vs : List V} (h : IsTs K H ts vs) (h' : IsT K H t v) : IsTs K H (ts ++ [t]) (vs ++ [v]) := h.append (.one h')
theorem IsTs.drop : ∀ {ts : List Tr} {vs : List V} (n : Nat), IsTs K H ts vs → IsTs K H (ts.drop n) (vs.drop n)
  | _, _, 0, h => h
  | [], vs, n + 1, h => by rw [isTs_nil.mp h]; simpa using IsTs.nil
  | t :: ts, vs, n + 1, h => by
    obtain ⟨v, r, rfl, _, h2⟩ := isTs_cons.mp h
    exact IsTs.drop n h2
theorem IsTs.take : ∀ {ts : List Tr} {vs : List V} (n : Nat), IsTs K H ts vs → IsTs K H (ts.take n) (vs.take n)
  | _, _, 0, _ => by simpa using IsTs.nil
  | [], vs, n + 1, h => by rw [isTs_nil.mp h]; simpa using IsTs.nil
  | t :: ts, vs, n + 1, h => by
    obtain ⟨v, r, rfl, h1, h2⟩ := isTs_cons.mp h
    exact isTs_cons.mpr ⟨v, r.take n, rfl, h1, IsTs.take n h2⟩
theorem IsT.str {s : Str} : IsT K H (.w s) (.str s) := isT_w.mpr rfl
theorem IsT.tup {ts : List Tr} {a : Addr} {vs : List V} (h : SqT K H a vs) (h' : IsTs K H ts vs) : IsT K H (.l ts) (.ref a) := isT_l.mpr ⟨a, vs, rfl, h, h'⟩
end
/-! ### what may change -/
/-- what stood stands, but at S -/
def Kp (S : Addr → Prop) (H H' : Hp) : Prop := ∀ a o, ¬ S a → H a = some o → H' a = some o
abbrev No : Addr → Prop := fun _ => False
section
variable {S S' : Addr → Prop} {H H' H1 H2 : Hp} {p a : Addr} {o : HO} {K : PySem.W.Frag}
theorem Kp.refl : Kp S H H := fun _ _ _ h => h
theorem Kp.trans (a : Kp S H H1) (b : Kp S H1 H2) : Kp S H H2 := fun x o n h => b x o n (a x o n h)
theorem Kp.same (h : Kp No H H') : Same H H' := fun a o e => h a o (fun z => z) e
theorem Kp.of (h : Same H H') : Kp S H H' := fun a o _ e => h a o e
theorem Kp.mono (h : Kp S H H') (m : ∀ a, S a → S' a) : Kp S' H H' := fun a o n e => h a o (fun z => n (m a z)) e
theorem Kp.new (k : Kp S H H') (h : H' p = none) : Kp S H (upd H' p o) := fun a u n e => by
  have e' := k a u n e
  rw [upd_ne (ne_of_none e' h)]; exact e'
/-- an object that was not there, or that may change -/
theorem Kp.put (k : Kp S H H') (h : S p ∨ H p = none) : Kp S H (upd H' p o) := fun a u n e => by
  have na : a ≠ p := by
    rintro rfl
    rcases h with h | h
    · exact n h
    · rw [e] at h; cases h
  rw [upd_ne na]; exact k a u n e
theorem Kp.fresh (k : Kp S H H') (n : ¬ S p) (h : H' p = none) : H p = none := by
  cases q : H p with
  | none => rfl
  | some u => rw [k p u n q] at h; cases h
theorem TK.new (h : H p = none) : TK K H (upd H p o) := fun a xs e => by
  rcases e with (e | ⟨ob, e⟩) | e
  · exact .inl (.inl (by rw [upd_ne (ne_of_none e h)]; exact e))
  · exact .inl (.inr ⟨ob, by rw [upd_ne (ne_of_none e h)]; exact e⟩)
  · exact .inr e
theorem Mut.notT {xs : List V} {ob : Obj} (m : Mut (H a)) : H a ≠ some (.tup xs) ∧ H a ≠ some (.frz ob (.tup xs)) := by
  constructor <;> (intro e; rw [e] at m; exact m)
theorem TK.put (m : Mut (H p)) : TK K H (upd H p o) := fun a xs e => by
  rcases e with (e | ⟨ob, e⟩) | e
  · exact .inl (.inl (by rw [upd_ne (by rintro rfl; rw [e] at m; exact m)]; exact e))
  · exact .inl (.inr ⟨ob, by rw [upd_ne (by rintro rfl; rw [e] at m; exact m)]; exact e⟩)
  · exact .inr e
theorem TK.kp (k : Kp S H H') (m : ∀ a, S a → Mut (H a)) : TK K H H' := fun a xs e => by
  rcases e with (e | ⟨ob, e⟩) | e
  · exact .inl (.inl (k a _ (fun z => by have q := m a z; rw [e] at q; exact q) e))
  · exact .inl (.inr ⟨ob, k a _ (fun z => by have q := m a z; rw [e] at q; exact q) e⟩)
  · exact .inr e
theorem TK.same (k : Same H H') : TK K H H' := TK.kp (S := No) (Kp.of k) fun _ z => z.elim
theorem same_new (h : H p = none) : Same H (upd H p o) := fun b u q => by rw [upd_ne (ne_of_none q h)]; exact q
theorem mut_lst {xs : List V} (e : H a = some (.lst xs)) : Mut (H a) := by rw [e]; trivial
end
theorem sz {n : Nat} (h : n ≤ 1000000) : n ≤ sizeLine := Nat.le_trans h (by decide)
theorem szl {n : Nat} (h : n ≤ 1000000) : n < sizeLine := Nat.lt_of_le_of_lt h (by decide)
/-! ### tuples of trees: made, joined, cut -/
section
variable {K : PySem.W.Frag} {H : Hp} {Q : VK}
theorem newT {ts : List Tr} {vs : List V} (h : IsTs K H ts vs) (q : ∀ (v : V) (H' : Hp), Same H H' → IsT K H' (.l ts) v → Q v H') : ∀ p, H p = none → Q (.ref p) (upd H p (.tup vs)) := fun p np =>
  q _ _ (same_new np) (IsT.tup (SqT.of upd_same) (h.tk (TK.new np)))
theorem catA {as bs : List Tr} {u v : V} (ha : IsT K H (.l as) u) (hb : IsT K H (.l bs) v) (hz : as.length + bs.length ≤ 1000000) (q : ∀ (v : V) (H' : Hp), Same H H' → IsT K H' (.l (as ++ bs)) v → Q v H') : rCatA K u v H Q := by
  obtain ⟨a, us, rfl, sa, ia⟩ := isT_l.mp ha
  obtain ⟨b, vs, rfl, sb, ib⟩ := isT_l.mp hb
  have la := ia.length
  have lb := ib.length
  refine ⟨a, b, us, vs, rfl, rfl, sa, sb, sz (by omega), fun e => ?_, fun _ e => ?_, fun _ _ => newT (ia.append ib) q⟩
  · subst e
    have : as = [] := List.eq_nil_of_length_eq_zero (by rw [← la]; rfl)
    subst this
    exact q _ _ (Same.refl H) hb
  · subst e
    have : bs = [] := List.eq_nil_of_length_eq_zero (by rw [← lb]; rfl)
    subst this
    exact q _ _ (Same.refl H) (by rw [List.append_nil]; exact ha)
def cutT (as : List Tr) (lo hi : Option Int) : List Tr := (as.drop (HT.sIx as.length 0 lo)).take (HT.sIx as.length as.length hi - HT.sIx as.length 0 lo)
theorem slA {as : List Tr} {u : V} {lo hi : Option Int} (ha : IsT K H (.l as) u) (q : ∀ (v : V) (H' : Hp), Same H H' → IsT K H' (.l (cutT as lo hi)) v → Q v H') : rSlA K u lo hi H Q := by
  obtain ⟨a, us, rfl, sa, ia⟩ := isT_l.mp ha
  have la := ia.length
  refine ⟨a, us, rfl, sa, fun e => ?_, fun _ => newT ?_ q⟩
  · rw [la] at e
    refine q _ _ (Same.refl H) ?_
    unfold cutT
    rw [e.1, e.2]
    simpa using ha
  · unfold cutT cutV
    rw [la]
    exact (ia.drop _).take _
theorem cutT_drop {as : List Tr} {n : Nat} (h : n ≤ as.length) : cutT as (some (n : Int)) none = as.drop n := by
  unfold cutT
  rw [HT.sIx_nat, HT.sIx_none, Nat.min_eq_left h, List.take_of_length_le (by rw [List.length_drop]; exact Nat.le_refl _)]
theorem cutT_take {as : List Tr} {n : Nat} (h : n ≤ as.length) : cutT as none (some (n : Int)) = as.take n := by
  unfold cutT
  rw [HT.sIx_nat, HT.sIx_none, Nat.min_eq_left h, Nat.sub_zero, List.drop_zero]
end
theorem atI_of {α : Type} {xs : List α} {i : Int} {v : α} (h0 : 0 ≤ i) (h : xs[i.toNat]? = some v) : atI xs i = some v := by
  have e : i = (i.toNat : Int) := by omega
  rw [e]
  exact atI_nat h
theorem atI_map {xs : List Int} {i : Int} (h0 : 0 ≤ i) (h : i.toNat < xs.length) : atI (xs.map V.int) i = some (.int xs[i.toNat]) :=
  atI_of h0 (by rw [List.getElem?_map, List.getElem?_eq_getElem h]; rfl)
theorem ixN_of {n : Nat} {i : Int} (h0 : 0 ≤ i) (h : i.toNat < n) : ixN n i = some i.toNat := by
  unfold ixN
  rw [if_pos h0, if_pos (by omega)]
theorem last_of (xs : List V) (v : V) : (xs ++ [v])[(xs ++ [v]).length - 1]? = some v := by simp
theorem paired_last {α β : Type} {F : α → β → Prop} : ∀ {as : List α} {bs : List β}, Paired F as bs → 0 < bs.length → ∃ as' a bs' b, as = as' ++ [a] ∧ bs = bs' ++ [b] ∧ Paired F as' bs' ∧ F a b
  | _, _, .nil, h => absurd h (Nat.lt_irrefl _)
  | _, _, .cons (a := a) (b := b) f .nil, _ => ⟨[], a, [], b, rfl, rfl, .nil, f⟩
  | _, _, .cons (a := a) (b := b) f (.cons g t), _ => by
    obtain ⟨as', x, bs', y, e1, e2, p, q⟩ := paired_last (.cons g t) (Nat.succ_pos _)
    exact ⟨a :: as', x, b :: bs', y, by rw [e1]; rfl, by rw [e2]; rfl, .cons f p, q⟩
theorem paired_snoc {α β : Type} {F : α → β → Prop} {as : List α} {bs : List β} {a : α} {b : β} (h : Paired F as bs) (f : F a b) : Paired F (as ++ [a]) (bs ++ [b]) := Paired.snoc h f
theorem paired_mono {α β : Type} {F G : α → β → Prop} (m : ∀ a b, F a b → G a b) : ∀ {as : List α} {bs : List β}, Paired F as bs → Paired G as bs
  | _, _, .nil => .nil
  | _, _, .cons f t => .cons (m _ _ f) (paired_mono m t)
theorem paired_app {α β : Type} {F : α → β → Prop} {as' : List α} {bs' : List β} : ∀ {as : List α} {bs : List β}, Paired F as bs → Paired F as' bs' → Paired F (as ++ as') (bs ++ bs')
  | _, _, .nil, h => h
  | _, _, .cons f t, h => .cons f (paired_app t h)
theorem paired_len {α β : Type} {F : α → β → Prop} {as : List α} {bs : List β} (h : Paired F as bs) : as.length = bs.length := Paired.length h
/-- isinstance(x, str | tuple) of trees -/
theorem kty {K : PySem.W.Frag} {a b : String} {r : Bool} (h : kitB a b = some r) : PySem.W.kitOne K (.type a) (.type b) = some r := kit_ty h
theorem k_ss : kitB "str" "str" = some true := by decide +kernel
theorem k_ts : kitB "tuple" "str" = some false := by decide +kernel
theorem k_st : kitB "str" "tuple" = some false := by decide +kernel
theorem k_tt : kitB "tuple" "tuple" = some true := by decide +kernel
theorem tyX_str {K : PySem.W.Frag} {H : Hp} {s : Str} : TyX K H (.str s) (.type "str") := .base (.str s)
theorem tyX_tup {K : PySem.W.Frag} {H : Hp} {a : Addr} {xs : List V} (h : SqT K H a xs) : TyX K H (.ref a) (.type "tuple") := by
  rcases h with (h | ⟨o, h⟩) | ⟨o, its, n, h, c, _⟩
  · exact .base (.tup h)
  · exact .fTuple h
  · exact .kTuple h c
/-- an if whose test's answer is told, the heap as it was -/
theorem if_b {c : TT} {t u : TS} {D : Ends} {σ : L2.St} {H : Hp} (b : Bool) (h : ∀ Qb : Bool → Hp → Prop, Qb b H → c σ H Qb) (q1 : b = true → t D σ H) (q2 : b = false → u D σ H) : tIfS c t u D σ H := by
  refine h _ ?_
  cases b with
  | true => exact q1 rfl
  | false => exact q2 rfl
theorem noSp {P : Program} {w : World} {K : PySem.W.Frag} {mg : Str → Option Value} {base : Heap} {f : Addr} {fd : FuncData} {ps : List Str} {sp : Sp} {k : Nat} {CX : CXT} (no : ∀ vs H Q E, ¬ sp vs H Q E) : FnOk P w K mg base CX k f fd ps sp :=
  ⟨fun vs H Q E h => absurd h (no vs H Q E), fun A outer s H args us vs Q E _ _ _ _ h => absurd h (no vs H Q E)⟩
theorem at4V {x y z u : V} {r : Int} (h0 : 0 ≤ r) (h1 : r < 4) : ∃ v, atI [x, y, z, u] r = some v ∧ (v = x ∨ v = y ∨ v = z ∨ v = u) := by
  have e : r = 0 ∨ r = 1 ∨ r = 2 ∨ r = 3 := by omega
  rcases e with rfl | rfl | rfl | rfl
  · exact ⟨x, rfl, .inl rfl⟩
  · exact ⟨y, rfl, .inr (.inl rfl)⟩
  · exact ⟨z, rfl, .inr (.inr (.inl rfl))⟩
  · exact ⟨u, rfl, .inr (.inr (.inr rfl))⟩
theorem bo_len : bootBuiltins "len" = some (.builtin "len") := PySem.boot_len
theorem bo_abs : bootBuiltins "abs" = some (.builtin "abs") := by decide +kernel
theorem bo_isinstance : bootBuiltins "isinstance" = some (.builtin "isinstance") := by decide +kernel
theorem bo_int : bootBuiltins "int" = some (.type "int") := by decide +kernel
theorem bo_str : bootBuiltins "str" = some (.type "str") := by decide +kernel
theorem bo_tuple : bootBuiltins "tuple" = some (.type "tuple") := by decide +kernel
theorem bo_list : bootBuiltins "list" = some (.type "list") := by decide +kernel
theorem bo_bool : bootBuiltins "bool" = some (.type "bool") := by decide +kernel
theorem bo_dict : bootBuiltins "dict" = some (.type "dict") := by decide +kernel
theorem bo_min : bootBuiltins "min" = some (.builtin "min") := by decide +kernel
theorem bo_max : bootBuiltins "max" = some (.builtin "max") := by decide +kernel
theorem bo_repr : bootBuiltins "repr" = some (.builtin "repr") := by decide +kernel
/-! ### the hand: a list of the draws (at d: ds) and a place -/
structure Hnd (H : Hp) (h d : Addr) (ds : List Int) : Prop where
  at_ : ∃ i : Int, H h = some (.lst [.ref d, .int i]) ∧ 0 ≤ i
  dr : H d = some (.lst (ds.map V.int))
  ne : d ≠ h
  nn : ∀ x ∈ ds, 0 ≤ x
abbrev At (h : Addr) : Addr → Prop := fun a => a = h
section
variable {S : Addr → Prop} {H H' H0 : Hp} {h d p : Addr} {ds : List Int} {o : HO} {K : PySem.W.Frag}
theorem Hnd.mut (x : Hnd H h d ds) : ∀ a, At h a → Mut (H a) := by
  rintro a rfl
  obtain ⟨i, e, _⟩ := x.at_
  rw [e]; trivial
theorem Hnd.tk (x : Hnd H h d ds) (k : Kp (At h) H H') : TK K H H' := TK.kp k x.mut
theorem Hnd.new (x : Hnd H h d ds) (n : H p = none) : Hnd (upd H p o) h d ds := by
  obtain ⟨⟨i, e, i0⟩, e2, ne, nn⟩ := x
  exact ⟨⟨i, by rw [upd_ne (ne_of_none e n)]; exact e, i0⟩, by rw [upd_ne (ne_of_none e2 n)]; exact e2, ne, nn⟩
theorem Hnd.same (x : Hnd H h d ds) (k : Same H H') : Hnd H' h d ds := by
  obtain ⟨⟨i, e, i0⟩, e2, ne, nn⟩ := x
  exact ⟨⟨i, k _ _ e, i0⟩, k _ _ e2, ne, nn⟩
theorem Hnd.neH (x : Hnd H h d ds) (n : H p = none) : p ≠ h := by
  obtain ⟨⟨i, e, _⟩, _⟩ := x
  rintro rfl
  rw [e] at n; cases n
theorem Hnd.neD (x : Hnd H h d ds) (n : H p = none) : p ≠ d := by
  obtain ⟨_, e, _, _⟩ := x
  rintro rfl
  rw [e] at n; cases n
/-- an object other than the hand's two is changed -/
theorem Hnd.put (x : Hnd H h d ds) (n1 : p ≠ h) (n2 : p ≠ d) : Hnd (upd H p o) h d ds := by
  obtain ⟨⟨i, e, i0⟩, e2, ne, nn⟩ := x
  exact ⟨⟨i, by rw [upd_ne n1.symm]; exact e, i0⟩, by rw [upd_ne n2.symm]; exact e2, ne, nn⟩
end
end OG

/-! ### == of trees -/
namespace OG
open PySem L2
mutual
def pd : Tr → PyData
  | .w s => .str s
  | .l ts => .tuple (pds ts)
def pds : List Tr → List PyData
  | [] => []
  | t :: ts => pd t :: pds ts
end
/-- the words' signs are signs -/
abbrev sw (s : Str) : Bool := PyData.strOk s
mutual
def Tr.sok : Tr → Bool
  | .w s => sw s
  | .l ts => Tr.soks ts
def Tr.soks : List Tr → Bool
  | [] => true
  | t :: ts => t.sok && Tr.soks ts
end
theorem Tr.soks_iff : ∀ {ts : List Tr}, Tr.soks ts = true ↔ ∀ t ∈ ts, t.sok = true
  | [] => by simp [Tr.soks]
  | t :: ts => by simp [Tr.soks, Tr.soks_iff (ts := ts)]
theorem Tr.sok_l {ts : List Tr} : (Tr.l ts).sok = true ↔ ∀ t ∈ ts, t.sok = true := by simp only [Tr.sok]; exact Tr.soks_iff
theorem sw_app {s t : Str} : sw (s ++ t) = (sw s && sw t) := by
  show (s.cps ++ t.cps).all _ = (s.cps.all _ && t.cps.all _)
  rw [Array.all_append]
mutual
theorem pd_lay : ∀ t : Tr, t.sok = true → (pd t).canLay0 = true
  | .w s, h => by simp only [Tr.sok] at h; simp only [pd, PyData.canLay0]; exact h
  | .l ts, h => by simp only [Tr.sok] at h; simp only [pd, PyData.canLay0]; exact pds_lay ts h
theorem pds_lay : ∀ ts : List Tr, Tr.soks ts = true → PyData.canLayAll0 (pds ts) = true
  | [], _ => by simp [pds, PyData.canLayAll0]
  | t :: ts, h => by
    simp only [Tr.soks, Bool.and_eq_true] at h
    simp only [pds, PyData.canLayAll0]; rw [pd_lay t h.1, pds_lay ts h.2]; rfl
end
mutual
theorem pd_depth : ∀ t : Tr, (pd t).depth = t.depth
  | .w s => by simp [pd, PyData.depth, Tr.depth]
  | .l ts => by simp only [pd, PyData.depth, Tr.depth]; rw [pds_depth ts]
theorem pds_depth : ∀ ts : List Tr, PyData.depthAll (pds ts) = Tr.depths ts
  | [] => by simp [pds, PyData.depthAll, Tr.depths]
  | t :: ts => by simp only [pds, PyData.depthAll, Tr.depths]; rw [pd_depth t, pds_depth ts]
end
mutual
theorem pd_eqv : ∀ a b : Tr, PyData.eqv (pd a) (pd b) = a.beq b
  | .w s, .w t => by
    simp only [pd, PyData.eqv, Tr.beq]
    rw [Bool.eq_iff_iff]; simp
  | .l xs, .l ys => by simp only [pd, PyData.eqv, Tr.beq]; exact pds_eqv xs ys
  | .w _, .l _ => by simp [pd, PyData.eqv, Tr.beq]
  | .l _, .w _ => by simp [pd, PyData.eqv, Tr.beq]
theorem pds_eqv : ∀ as bs : List Tr, PyData.eqvAll (pds as) (pds bs) = Tr.beqs as bs
  | [], [] => by simp [pds, PyData.eqvAll, Tr.beqs]
  | x :: xs, y :: ys => by simp only [pds, PyData.eqvAll, Tr.beqs]; rw [pd_eqv x y, pds_eqv xs ys]
  | [], _ :: _ => by simp [pds, PyData.eqvAll, Tr.beqs]
  | _ :: _, [] => by simp [pds, PyData.eqvAll, Tr.beqs]
end
theorem pd_dec (a b : Tr) : PyData.eqv (pd a) (pd b) = decide (a = b) := by
  rw [pd_eqv, Bool.eq_iff_iff, Tr.beq_iff]; simp
mutual
theorem IsT.dp {K : PySem.W.Frag} {H : Hp} : ∀ {t : Tr} {v : V}, IsT K H t v → Dp K H v (pd t)
  | .w s, v, h => by rw [isT_w.mp h]; exact Dp.str s
  | .l ts, v, h => by
    obtain ⟨a, vs, rfl, s, r⟩ := isT_l.mp h
    exact Dp.tup s (IsTs.dp r)
theorem IsTs.dp {K : PySem.W.Frag} {H : Hp} : ∀ {ts : List Tr} {vs : List V}, IsTs K H ts vs → DpAll K H vs (pds ts)
  | [], vs, h => by rw [isTs_nil.mp h]; exact DpAll.nil
  | t :: ts, vs, h => by
    obtain ⟨v, r, rfl, h1, h2⟩ := isTs_cons.mp h
    exact DpAll.cons (IsT.dp h1) (IsTs.dp h2)
end
theorem un2 {k : Nat} {A : Around} (r : Room k A) : A.units + 200 < cLine := by have := r.un; omega
def rEqT (K : PySem.W.Frag) : R2 := fun x y H Q => ∃ a b : Tr, IsT K H a x ∧ IsT K H b y ∧ a.sok = true ∧ b.sok = true ∧ min a.depth b.depth ≤ 200 ∧ Q (.bl (decide (a = b))) H
def rNeT (K : PySem.W.Frag) : R2 := fun x y H Q => ∃ a b : Tr, IsT K H a x ∧ IsT K H b y ∧ a.sok = true ∧ b.sok = true ∧ min a.depth b.depth ≤ 200 ∧ Q (.bl (!decide (a = b))) H
theorem op_eqT {X : Cx} (hu : X.A.units + 200 < cLine) : OpR X (compareOp .Eq) (rEqT X.K) := by
  intro pins s σ H x y v u Q I rx ry h
  obtain ⟨a, b, ha, hb, sa, sb, hd, q⟩ := h
  obtain ⟨as, r1⟩ := Dp.reads I _ x v ha.dp rx
  obtain ⟨bs, r2⟩ := Dp.reads I _ y u hb.dp ry
  refine SeqAt.compareEq_reads r1 r2 (pd_lay a sa) (pd_lay b sb) (by rw [pd_depth, pd_depth]; omega) ?_
  rw [pd_dec]; exact ⟨.bl _, H, I, rfl, q⟩
theorem op_neT {X : Cx} (hu : X.A.units + 200 < cLine) : OpR X (compareOp .NotEq) (rNeT X.K) := by
  intro pins s σ H x y v u Q I rx ry h
  obtain ⟨a, b, ha, hb, sa, sb, hd, q⟩ := h
  obtain ⟨as, r1⟩ := Dp.reads I _ x v ha.dp rx
  obtain ⟨bs, r2⟩ := Dp.reads I _ y u hb.dp ry
  refine SeqAt.compareNe_reads r1 r2 (pd_lay a sa) (pd_lay b sb) (by rw [pd_depth, pd_depth]; omega) ?_
  rw [pd_dec]; exact ⟨.bl _, H, I, rfl, q⟩
theorem slen (z : Str) : z.cps.toList.length = z.length := by
  show z.cps.toList.length = z.cps.size
  simp
end OG

/-! ### texts of trees: what is written, what is read -/
namespace OG
open PySem L2
def lowS : Str := "abcdefghijklmnopqrstuvwxyz"
def figS : Str := "0123456789"
def betS : Str := " \n"
def low (c : Nat) : Bool := decide (c ∈ lowS.cps.toList)
def alnum (c : Nat) : Bool := decide (c ∈ (lowS ++ figS).cps.toList)
def bet (c : Nat) : Bool := decide (c ∈ betS.cps.toList)
theorem low_alnum {c : Nat} (h : low c = true) : alnum c = true := by
  have e : (lowS ++ figS).cps.toList = lowS.cps.toList ++ figS.cps.toList := by
    show (lowS.cps ++ figS.cps).toList = _
    simp
  unfold alnum low at *
  rw [e]
  exact decide_eq_true (List.mem_append_left _ (of_decide_eq_true h))
theorem alnum_facts : ∀ c ∈ (lowS ++ figS).cps.toList, bet c = false ∧ c ≠ 40 ∧ c ≠ 41 := by decide +kernel
theorem alnum_bet {c : Nat} (h : alnum c = true) : bet c = false := (alnum_facts c (of_decide_eq_true h)).1
theorem alnum_40 {c : Nat} (h : alnum c = true) : c ≠ 40 := (alnum_facts c (of_decide_eq_true h)).2.1
theorem alnum_41 {c : Nat} (h : alnum c = true) : c ≠ 41 := (alnum_facts c (of_decide_eq_true h)).2.2
theorem bet_facts : ∀ c ∈ betS.cps.toList, alnum c = false := by decide +kernel
theorem bet_alnum {c : Nat} (h : bet c = true) : alnum c = false := bet_facts c (of_decide_eq_true h)
theorem bet_40 : bet 40 = false := by decide +kernel
theorem bet_41 : bet 41 = false := by decide +kernel
theorem alnum_p40 : alnum 40 = false := by decide +kernel
theorem alnum_p41 : alnum 41 = false := by decide +kernel
theorem low_p40 : low 40 = false := by decide +kernel
theorem low_p41 : low 41 = false := by decide +kernel
def skip (l : List Nat) : List Nat := l.dropWhile bet
def full : List (List Tr) → Bool
  | [_ :: _] => true
  | _ => false
/-- what read_value finds behind a place: N the text's length, st the open lists (the last one first), the rest of the text -/
def rd (N : Nat) : Nat → List (List Tr) → List Nat → Except Nat Tr
  | 0, _, _ => .error 0
  | _ + 1, st, [] => match st with
    | [t :: _] => .ok t
    | _ => .error N
  | n + 1, st, c :: r =>
    if full st = true then .error (N - (r.length + 1))
    else if c = 40 then rd N n ([] :: st) (skip r)
    else match st with
      | top :: nxt :: s =>
        if c = 41 then rd N n ((nxt ++ [.l top]) :: s) (skip r)
        else if low c = true then
          if ((c :: r).takeWhile alnum).length ≤ 12 then rd N n ((top ++ [.w ⟨((c :: r).takeWhile alnum).toArray⟩]) :: nxt :: s) (skip ((c :: r).dropWhile alnum))
          else .error (N - (r.length + 1) + 12)
        else .error (N - (r.length + 1))
      | [top] =>
        if low c = true then
          if ((c :: r).takeWhile alnum).length ≤ 12 then rd N n [top ++ [.w ⟨((c :: r).takeWhile alnum).toArray⟩]] (skip ((c :: r).dropWhile alnum))
          else .error (N - (r.length + 1) + 12)
        else .error (N - (r.length + 1))
      | [] => .error 0
def WOk (s : Str) : Prop := ∃ c r, s.cps.toList = c :: r ∧ low c = true ∧ (∀ x ∈ r, alnum x = true) ∧ r.length + 1 ≤ 12
mutual
def TOk : Tr → Prop
  | .w s => WOk s
  | .l ts => TOks ts
def TOks : List Tr → Prop
  | [] => True
  | t :: ts => TOk t ∧ TOks ts
end
theorem toks_of : ∀ {ts : List Tr}, (∀ t ∈ ts, TOk t) → TOks ts
  | [], _ => by simp [TOks]
  | t :: ts, h => by
    simp only [TOks]
    exact ⟨h t List.mem_cons_self, toks_of fun u hu => h u (List.mem_cons_of_mem _ hu)⟩
theorem toks_mem : ∀ {ts : List Tr}, TOks ts → ∀ t ∈ ts, TOk t
  | t :: ts, h, u, hu => by
    simp only [TOks] at h
    rcases List.mem_cons.mp hu with e | e
    · subst e; exact h.1
    · exact toks_mem h.2 u e
mutual
def toks : Tr → List (List Nat)
  | .w s => [s.cps.toList]
  | .l ts => [40] :: (toksL ts ++ [[41]])
def toksL : List Tr → List (List Nat)
  | [] => []
  | t :: ts => toks t ++ toksL ts
end
def WordTok (k : List Nat) : Prop := ∃ c r, k = c :: r ∧ low c = true ∧ (∀ x ∈ r, alnum x = true) ∧ r.length + 1 ≤ 12
def GoodTok (k : List Nat) : Prop := k = [40] ∨ k = [41] ∨ WordTok k
/-- a text without spaces ahead spells these pieces -/
def Spells : List (List Nat) → List Nat → Prop
  | [], l => l = []
  | k :: ks, l => ∃ g r, l = k ++ (g ++ r) ∧ (∀ c ∈ g, bet c = true) ∧ Spells ks r ∧ (WordTok k → ∀ c, (g ++ r).head? = some c → alnum c = false)
mutual
theorem good_toks : ∀ {t : Tr}, TOk t → ∀ k ∈ toks t, GoodTok k
  | .w s, h, k, hk => by
    simp only [toks, List.mem_singleton] at hk
    subst hk
    simp only [TOk] at h
    exact .inr (.inr h)
  | .l ts, h, k, hk => by
    simp only [toks, List.mem_cons, List.mem_append, List.not_mem_nil, or_false] at hk
    simp only [TOk] at h
    rcases hk with e | e | e
    · exact .inl e
    · exact good_toksL h k e
    · exact .inr (.inl e)
theorem good_toksL : ∀ {ts : List Tr}, TOks ts → ∀ k ∈ toksL ts, GoodTok k
  | [], _, k, hk => by simp [toksL] at hk
  | t :: ts, h, k, hk => by
    simp only [toksL, List.mem_append] at hk
    simp only [TOks] at h
    rcases hk with e | e
    · exact good_toks h.1 k e
    · exact good_toksL h.2 k e
end
theorem good_head {k : List Nat} (h : GoodTok k) : ∃ c r, k = c :: r ∧ bet c = false := by
  rcases h with rfl | rfl | ⟨c, r, rfl, h, _⟩
  · exact ⟨40, [], rfl, bet_40⟩
  · exact ⟨41, [], rfl, bet_41⟩
  · exact ⟨c, r, rfl, alnum_bet (low_alnum h)⟩
theorem skip_gap : ∀ {g l : List Nat}, (∀ c ∈ g, bet c = true) → skip (g ++ l) = skip l
  | [], _, _ => rfl
  | c :: g, l, h => by
    have h1 := h c List.mem_cons_self
    show (c :: (g ++ l)).dropWhile bet = _
    rw [List.dropWhile_cons, h1]
    exact skip_gap fun x hx => h x (List.mem_cons_of_mem _ hx)
theorem skip_no {c : Nat} {l : List Nat} (h : bet c = false) : skip (c :: l) = c :: l := by
  show (c :: l).dropWhile bet = _
  rw [List.dropWhile_cons, h]
  rfl
theorem spells_skip {ks : List (List Nat)} {l : List Nat} (h : Spells ks l) (g : ∀ k ∈ ks, GoodTok k) : skip l = l := by
  cases ks with
  | nil => have e : l = [] := h; subst e; rfl
  | cons k ks =>
    obtain ⟨gp, r, e, _⟩ := h
    obtain ⟨c, q, e2, hb⟩ := good_head (g k List.mem_cons_self)
    rw [e, e2]
    exact skip_no hb
theorem spells_gap {ks : List (List Nat)} {g r : List Nat} (hg : ∀ c ∈ g, bet c = true) (h : Spells ks r) (k : ∀ k ∈ ks, GoodTok k) : skip (g ++ r) = r := by
  rw [skip_gap hg, spells_skip h k]
theorem word_split {c : Nat} {r m : List Nat} (hl : low c = true) (hr : ∀ x ∈ r, alnum x = true) (hm : ∀ x, m.head? = some x → alnum x = false) :
    (c :: (r ++ m)).takeWhile alnum = c :: r ∧ (c :: (r ++ m)).dropWhile alnum = m := by
  have key : ∀ r : List Nat, (∀ x ∈ r, alnum x = true) → (r ++ m).takeWhile alnum = r ∧ (r ++ m).dropWhile alnum = m := by
    intro r
    induction r with
    | nil =>
      intro _
      cases m with
      | nil => exact ⟨rfl, rfl⟩
      | cons x m =>
        have hx := hm x rfl
        simp [List.takeWhile_cons, List.dropWhile_cons, hx]
    | cons y r ih =>
      intro h
      have hy := h y List.mem_cons_self
      obtain ⟨i1, i2⟩ := ih fun x hx => h x (List.mem_cons_of_mem _ hx)
      simp [List.takeWhile_cons, List.dropWhile_cons, hy, i1, i2]
  have hc := low_alnum hl
  obtain ⟨i1, i2⟩ := key r hr
  constructor
  · rw [List.takeWhile_cons, hc]; simp [i1]
  · rw [List.dropWhile_cons, hc]; simp [i2]
theorem full_no {top : List Tr} {st : List (List Tr)} (h : st ≠ [] ∨ top = []) : full (top :: st) = false := by
  rcases h with h | h
  · cases st with
    | nil => exact absurd rfl h
    | cons a s => cases top <;> rfl
  · subst h; cases st <;> rfl
mutual
theorem rd_t (N : Nat) : ∀ {t : Tr} {ks : List (List Nat)} {l : List Nat} {top : List Tr} {st : List (List Tr)} {n : Nat}, TOk t → (∀ k ∈ ks, GoodTok k) → Spells (toks t ++ ks) l → (st ≠ [] ∨ top = []) → l.length < n →
    ∃ l' n', Spells ks l' ∧ l'.length < n' ∧ rd N n (top :: st) l = rd N n' ((top ++ [t]) :: st) l'
  | .w s, ks, l, top, st, n, ok, gk, sp, hst, hn => by
    simp only [TOk] at ok
    obtain ⟨c, r, ec, hl, hr, h12⟩ := ok
    simp only [toks, List.cons_append, List.nil_append] at sp
    obtain ⟨g, m, el, hg, hs, hw⟩ := sp
    rw [ec] at el hw
    have hw' := hw ⟨c, r, rfl, hl, hr, h12⟩
    obtain ⟨w1, w2⟩ := word_split (m := g ++ m) hl hr hw'
    subst el
    cases n with
    | zero => exact absurd hn (Nat.not_lt_zero _)
    | succ n =>
      have es : (⟨(c :: r).toArray⟩ : Str) = s := by rw [← ec]
      have hc40 : c ≠ 40 := alnum_40 (low_alnum hl)
      have hc41 : c ≠ 41 := alnum_41 (low_alnum hl)
      refine ⟨m, n, hs, ?_, ?_⟩
      · simp only [List.length_append, List.length_cons] at hn; omega
      · show rd N (n + 1) (top :: st) (c :: (r ++ (g ++ m))) = _
        have h13 : (c :: r).length ≤ 12 := by simpa using h12
        cases st with
        | nil =>
          simp only [rd, full_no hst, Bool.false_eq_true, if_false, hc40, hl, if_true, w1, w2, h13, es, spells_gap hg hs gk]
        | cons nxt s' =>
          simp only [rd, full_no hst, Bool.false_eq_true, if_false, hc40, hc41, hl, if_true, w1, w2, h13, es, spells_gap hg hs gk]
  | .l ts, ks, l, top, st, n, ok, gk, sp, hst, hn => by
    simp only [TOk] at ok
    simp only [toks, List.cons_append, List.append_assoc] at sp
    obtain ⟨g, m, el, hg, hs, _⟩ := sp
    cases n with
    | zero => exact absurd hn (Nat.not_lt_zero _)
    | succ n =>
      have gk2 : ∀ k ∈ [[41]] ++ ks, GoodTok k := fun k hk => by
        rcases List.mem_append.mp hk with e | e
        · exact .inr (.inl (List.mem_singleton.mp e))
        · exact gk k e
      have gk1 : ∀ k ∈ toksL ts ++ ([[41]] ++ ks), GoodTok k := fun k hk => by
        rcases List.mem_append.mp hk with e | e
        · exact good_toksL ok k e
        · exact gk2 k e
      subst el
      have hn1 : m.length < n := by
        simp only [List.length_append, List.length_cons, List.length_nil] at hn; omega
      obtain ⟨l1, n1, s1, b1, e1⟩ := rd_ts N (top := []) (st := top :: st) ok gk2 hs (by simp) hn1
      simp only [List.cons_append, List.nil_append] at s1
      obtain ⟨g2, m2, el2, hg2, hs2, _⟩ := s1
      subst el2
      cases n1 with
      | zero => exact absurd b1 (Nat.not_lt_zero _)
      | succ n1 =>
        refine ⟨m2, n1, hs2, ?_, ?_⟩
        · simp only [List.length_append, List.length_cons, List.length_nil] at b1; omega
        · have step1 : rd N (n + 1) (top :: st) ([40] ++ (g ++ m)) = rd N n ([] :: top :: st) m := by
            show rd N (n + 1) (top :: st) (40 :: (g ++ m)) = _
            simp only [rd, full_no hst, Bool.false_eq_true, if_false, if_true, spells_gap hg hs gk1]
          have step2 : rd N (n1 + 1) (([] ++ ts) :: top :: st) ([41] ++ (g2 ++ m2)) = rd N n1 ((top ++ [.l ts]) :: st) m2 := by
            show rd N (n1 + 1) (ts :: top :: st) (41 :: (g2 ++ m2)) = _
            have f : full (ts :: top :: st) = false := by cases ts <;> rfl
            simp only [rd, f, Bool.false_eq_true, if_false, if_true, (by decide : ¬ (41 = 40)), spells_gap hg2 hs2 gk]
          rw [step1, e1, step2]
theorem rd_ts (N : Nat) : ∀ {ts : List Tr} {ks : List (List Nat)} {l : List Nat} {top : List Tr} {st : List (List Tr)} {n : Nat}, TOks ts → (∀ k ∈ ks, GoodTok k) → Spells (toksL ts ++ ks) l → st ≠ [] → l.length < n →
    ∃ l' n', Spells ks l' ∧ l'.length < n' ∧ rd N n (top :: st) l = rd N n' ((top ++ ts) :: st) l'
  | [], ks, l, top, st, n, _, gk, sp, hst, hn => by
    simp only [toksL, List.nil_append] at sp
    exact ⟨l, n, sp, hn, by rw [List.append_nil]⟩
  | t :: ts, ks, l, top, st, n, ok, gk, sp, hst, hn => by
    simp only [TOks] at ok
    simp only [toksL, List.append_assoc] at sp
    have gk1 : ∀ k ∈ toksL ts ++ ks, GoodTok k := fun k hk => by
      rcases List.mem_append.mp hk with e | e
      · exact good_toksL ok.2 k e
      · exact gk k e
    obtain ⟨l1, n1, s1, b1, e1⟩ := rd_t N (top := top) ok.1 gk1 sp (.inl hst) hn
    obtain ⟨l2, n2, s2, b2, e2⟩ := rd_ts N (top := top ++ [t]) ok.2 gk s1 hst b1
    refine ⟨l2, n2, s2, b2, ?_⟩
    rw [e1, e2, List.append_assoc]
    rfl
end
/-- a text with spaces ahead -/
def SpellsG (ks : List (List Nat)) (l : List Nat) : Prop := ∃ g r, l = g ++ r ∧ (∀ c ∈ g, bet c = true) ∧ Spells ks r
theorem read_ok {t : Tr} {l : List Nat} {N : Nat} (ok : TOk t) (h : SpellsG (toks t) l) : rd N (l.length + 1) [[]] (skip l) = .ok t := by
  obtain ⟨g, r, rfl, hg, hs⟩ := h
  rw [spells_gap hg hs (good_toks ok)]
  have hs' : Spells (toks t ++ []) r := by rw [List.append_nil]; exact hs
  obtain ⟨l', n', s', b', e⟩ := rd_t N (top := []) (st := []) (n := (g ++ r).length + 1) ok (fun k hk => absurd hk List.not_mem_nil) hs' (.inr rfl) (by simp only [List.length_append]; omega)
  have el : l' = [] := s'
  subst el
  rw [e]
  cases n' with
  | zero => exact absurd b' (Nat.not_lt_zero _)
  | succ n => rfl
/-! ### what is written -/
mutual
def wr : Tr → List Nat
  | .w s => s.cps.toList
  | .l ts => 40 :: (wrs ts ++ [41])
/-- the texts with one space between -/
def wrs : List Tr → List Nat
  | [] => []
  | [t] => wr t
  | t :: u :: ts => wr t ++ 32 :: wrs (u :: ts)
end
theorem bet32 : bet 32 = true := by decide +kernel
mutual
theorem spells_wr : ∀ {t : Tr} {ks : List (List Nat)} {m : List Nat}, TOk t → (∃ g r, m = g ++ r ∧ (∀ c ∈ g, bet c = true) ∧ Spells ks r) → (∀ c, m.head? = some c → alnum c = false) → Spells (toks t ++ ks) (wr t ++ m)
  | .w s, ks, m, ok, ⟨g, r, e, hg, hs⟩, hm => by
    subst e
    simp only [toks, wr, List.cons_append, List.nil_append]
    exact ⟨g, r, rfl, hg, hs, fun _ => hm⟩
  | .l ts, ks, m, ok, ⟨g, r, e, hg, hs⟩, hm => by
    subst e
    simp only [TOk] at ok
    simp only [toks, wr, List.cons_append, List.append_assoc, List.nil_append]
    refine ⟨[], wrs ts ++ 41 :: (g ++ r), rfl, fun _ h => (nomatch h), ?_, fun ⟨c, _, h, hl, _⟩ => by injection h with h _; subst h; rw [low_p40] at hl; cases hl⟩
    have h41 : Spells ([41] :: ks) (41 :: (g ++ r)) := ⟨g, r, rfl, hg, hs, fun ⟨c, _, h, hl, _⟩ => absurd hl (by rw [← (List.cons.inj h).1, low_p41]; decide)⟩
    exact spells_wrs (m := 41 :: (g ++ r)) ok ⟨[], _, rfl, fun _ h => (nomatch h), h41⟩ (fun c hc => by
      have e : 41 = c := by simpa using hc
      rw [← e]; exact alnum_p41) fun _ => ⟨_, rfl, h41⟩
theorem spells_wrs : ∀ {ts : List Tr} {ks : List (List Nat)} {m : List Nat}, TOks ts → (∃ g r, m = g ++ r ∧ (∀ c ∈ g, bet c = true) ∧ Spells ks r) → (∀ c, m.head? = some c → alnum c = false) → 
    (ts = [] → ∃ r, m = r ∧ Spells ks r) → Spells (toksL ts ++ ks) (wrs ts ++ m)
  | [], ks, m, ok, h, hm, hn => by
    obtain ⟨r, e, hs⟩ := hn rfl
    subst e
    simpa [toksL, wrs] using hs
  | [t], ks, m, ok, h, hm, _ => by
    simp only [TOks] at ok
    simp only [toksL, wrs, List.append_nil]
    exact spells_wr ok.1 h hm
  | t :: u :: ts, ks, m, ok, h, hm, _ => by
    rw [TOks] at ok
    have e : wrs (t :: u :: ts) ++ m = wr t ++ (32 :: (wrs (u :: ts) ++ m)) := by simp [wrs]
    have e2 : toksL (t :: u :: ts) ++ ks = toks t ++ (toksL (u :: ts) ++ ks) := by simp [toksL]
    rw [e, e2]
    refine spells_wr ok.1 ⟨[32], wrs (u :: ts) ++ m, rfl, fun c hc => by rw [List.mem_singleton.mp hc]; exact bet32, spells_wrs ok.2 h hm fun z => by cases z⟩ fun c hc => ?_
    have e : 32 = c := by simpa using hc
    rw [← e]; exact bet_alnum bet32
end
theorem read_wr {t : Tr} (ok : TOk t) : SpellsG (toks t) (wr t) := by
  refine ⟨[], wr t, rfl, fun _ h => (nomatch h), ?_⟩
  have h := spells_wr (t := t) (ks := []) (m := []) ok ⟨[], [], rfl, fun _ h => (nomatch h), rfl⟩ fun c hc => by simp at hc
  simpa using h
/-! ### how write_value goes along -/
abbrev Wt := Sum Str Tr
def wtx : Wt → List Nat
  | .inl s => s.cps.toList
  | .inr t => wr t
def wtw : Wt → Nat
  | .inl _ => 1
  | .inr t => 3 * t.size - 1
def wtws (ws : List Wt) : Nat := (ws.map wtw).sum
theorem wtws_append (a b : List Wt) : wtws (a ++ b) = wtws a + wtws b := by simp [wtws]
theorem wtws_length : ∀ ws : List Wt, ws.length ≤ wtws ws
  | [] => Nat.zero_le _
  | w :: ws => by
    have h := wtws_length ws
    have h1 : 1 ≤ wtw w := by
      cases w with
      | inl s => exact Nat.le_refl _
      | inr t => have := Tr.size_pos t; show 1 ≤ 3 * t.size - 1; omega
    show ws.length + 1 ≤ wtw w + wtws ws
    omega
/-- what is laid for the items from a place on -/
def pfx (b : Bool) : List Tr → List Wt
  | [] => []
  | t :: r => pfx true r ++ ([.inr t] ++ if b then [.inl " "] else [])
theorem pfx_w : ∀ (b : Bool) (ts : List Tr), wtws (pfx b ts) ≤ 3 * Tr.sizes ts
  | _, [] => Nat.zero_le _
  | b, t :: r => by
    have h := pfx_w true r
    have := Tr.size_pos t
    have e : wtws (([.inr t] : List Wt) ++ if b then [.inl " "] else []) ≤ 3 * t.size := by
      cases b <;> simp [wtws, wtw] <;> omega
    show wtws (pfx true r ++ _) ≤ 3 * (t.size + Tr.sizes r)
    rw [wtws_append]; omega
abbrev spS : Str := " "
abbrev opS : Str := "("
abbrev clS : Str := ")"
theorem slens : ∀ l : List Str, (l.map (·.length)).sum = (l.flatMap (fun s => s.cps.toList)).length
  | [] => rfl
  | x :: r => by
    have h : x.cps.toList.length = x.length := by
      show x.cps.toList.length = x.cps.size
      simp
    simp only [List.map_cons, List.sum_cons, List.flatMap_cons, List.length_append, h, slens r]
theorem sizes_drop : ∀ (ts : List Tr) (n : Nat), Tr.sizes (ts.drop n) ≤ Tr.sizes ts
  | ts, 0 => Nat.le_refl _
  | [], n + 1 => by simp
  | t :: r, n + 1 => by
    have := sizes_drop r n
    show Tr.sizes (r.drop n) ≤ t.size + Tr.sizes r
    omega
theorem sp_cps : (" " : Str).cps.toList = [32] := by decide +kernel
theorem op_cps : ("(" : Str).cps.toList = [40] := by decide +kernel
theorem cl_cps : (")" : Str).cps.toList = [41] := by decide +kernel
theorem pfx_tx : ∀ (b : Bool) (ts : List Tr), (pfx b ts).reverse.flatMap wtx = (if b = true ∧ ts ≠ [] then [32] else []) ++ wrs ts
  | b, [] => by simp [pfx, wrs]
  | b, [t] => by
    cases b
    · simp [pfx, wrs, wtx]
    · simp [pfx, wrs, wtx, sp_cps]
  | b, t :: u :: r => by
    have h := pfx_tx true (u :: r)
    have h' : (pfx true (u :: r)).reverse.flatMap wtx = 32 :: wrs (u :: r) := by simpa using h
    have e : pfx b (t :: u :: r) = pfx true (u :: r) ++ ([.inr t] ++ if b then [.inl " "] else []) := rfl
    rw [e, List.reverse_append, List.flatMap_append, h', wrs]
    cases b
    · simp [wtx]
    · simp [wtx, sp_cps]
theorem drop_pfx {ts : List Tr} {i : Nat} {t : Tr} (h : ts[i]? = some t) (b : Bool) : pfx b (ts.drop i) = pfx true (ts.drop (i + 1)) ++ ([.inr t] ++ if b then [.inl " "] else []) := by
  have hi : i < ts.length := (List.getElem?_eq_some_iff.mp h).1
  have e : ts[i] = t := (List.getElem?_eq_some_iff.mp h).2
  rw [List.drop_eq_getElem_cons hi, e]
  rfl
theorem join_cps (l : List Str) : (Txt.join "" l).cps.toList = l.flatMap (fun s => s.cps.toList) := by
  have e := PyProof.Rows.join_plain_closes ("" : Str) l
  rw [eq_of_beq e]
  induction l with
  | nil => rfl
  | cons x r ih =>
    cases r with
    | nil => simp [Str.join]
    | cons y r =>
      have e2 : Str.join ("" : Str) (x :: y :: r) = x ++ ("" : Str) ++ Str.join "" (y :: r) := rfl
      have e3 := ih (PyProof.Rows.join_plain_closes ("" : Str) (y :: r))
      rw [e2]
      show ((x.cps ++ (Str.ofString "").cps) ++ (Str.join "" (y :: r)).cps).toList = _
      rw [Array.toList_append, e3, Array.toList_append]
      have e0 : (Str.ofString "").cps.toList = [] := by decide +kernel
      rw [e0]
      simp
theorem rd_full {N n c : Nat} {st : List (List Tr)} {r : List Nat} (h : full st = true) : rd N (n + 1) st (c :: r) = .error (N - (r.length + 1)) := by
  simp only [rd, h, if_true]
theorem rd_40 {N n : Nat} {st : List (List Tr)} {r : List Nat} (h : full st = false) : rd N (n + 1) st (40 :: r) = rd N n ([] :: st) (skip r) := by
  simp only [rd, h, Bool.false_eq_true, if_false, if_true]
theorem rd_41 {N n : Nat} {top nxt : List Tr} {s : List (List Tr)} {r : List Nat} (h : full (top :: nxt :: s) = false) : rd N (n + 1) (top :: nxt :: s) (41 :: r) = rd N n ((nxt ++ [.l top]) :: s) (skip r) := by
  simp only [rd, h, Bool.false_eq_true, if_false, if_true, (by decide : ¬ (41 = 40))]
theorem rd_word {N n c : Nat} {top : List Tr} {s : List (List Tr)} {r : List Nat} (h : full (top :: s) = false) (h40 : c ≠ 40) (h41 : c ≠ 41 ∨ s = []) : rd N (n + 1) (top :: s) (c :: r) =
    if low c = true then
      if ((c :: r).takeWhile alnum).length ≤ 12 then rd N n ((top ++ [.w ⟨((c :: r).takeWhile alnum).toArray⟩]) :: s) (skip ((c :: r).dropWhile alnum))
      else .error (N - (r.length + 1) + 12)
    else .error (N - (r.length + 1)) := by
  cases s with
  | nil => simp only [rd, h, Bool.false_eq_true, if_false, h40]
  | cons nxt s =>
    have h41' : c ≠ 41 := h41.elim id fun z => by cases z
    simp only [rd, h, Bool.false_eq_true, if_false, h40, h41']
/-! ### places in a text -/
theorem one_eq {c k : Nat} {s : Str} (h : s.cps.toList = [k]) : decide (V.str ⟨#[c]⟩ = V.str s) = decide (c = k) := by
  have e : (V.str ⟨#[c]⟩ = V.str s) ↔ c = k := by
    constructor
    · intro q
      have q2 : (⟨#[c]⟩ : Str) = s := by injection q
      have q3 : ([c] : List Nat) = s.cps.toList := by rw [← q2]
      rw [h] at q3
      exact (List.cons.inj q3).1
    · intro q
      subst q
      have : s = ⟨#[c]⟩ := by
        cases s with
        | mk a =>
          have h' : a.toList = [c] := h
          have : a = #[c] := by rw [← Array.toArray_toList (xs := a), h']
          rw [this]
      rw [this]
  exact decide_eq_decide.mpr e
theorem drop_tw (p : Nat → Bool) : ∀ l : List Nat, l.dropWhile p = l.drop (l.takeWhile p).length
  | [] => rfl
  | c :: l => by
    rw [List.dropWhile_cons, List.takeWhile_cons]
    cases h : p c with
    | true => simpa using drop_tw p l
    | false => rfl
theorem take_tw (p : Nat → Bool) : ∀ l : List Nat, l.takeWhile p = l.take (l.takeWhile p).length
  | [] => rfl
  | c :: l => by
    rw [List.takeWhile_cons]
    cases h : p c with
    | true => simpa using take_tw p l
    | false => rfl
theorem tw_le (p : Nat → Bool) : ∀ l : List Nat, (l.takeWhile p).length ≤ l.length
  | [] => Nat.le_refl _
  | c :: l => by
    have := tw_le p l
    rw [List.takeWhile_cons]
    cases h : p c with
    | true => simp; omega
    | false => simp
theorem skip_le (l : List Nat) : (skip l).length ≤ l.length := by
  unfold skip; rw [drop_tw, List.length_drop]; omega
theorem cut_cps {z : Str} {a b : Nat} (h1 : a ≤ b) (h2 : b ≤ z.length) : (cutS z (some (a : Int)) (some (b : Int))).cps.toList = (z.cps.toList.drop a).take (b - a) := by
  unfold cutS
  rw [HT.sIx_nat, HT.sIx_nat, Nat.min_eq_left (Nat.le_trans h1 h2), Nat.min_eq_left h2]
theorem str_ext {s t : Str} (h : s.cps.toList = t.cps.toList) : s = t := by
  cases s with
  | mk a => cases t with
    | mk b =>
      have : a = b := Array.toList_inj.mp h
      rw [this]
end OG

/-! ### extend by a tuple, enumerate(tuple), dict(d) of a module's dict -/
namespace OR
open PySem PySem.Calls PySem.Spec PyProof.Rows L2
theorem ext_lt (l b : Addr) (xs ys : Array Value) (n m : Nat) (dd : Option Addr) (sl : Array (Option Value)) (h0 : ¬(!xs.isEmpty && Builtin.List.listTooLong (xs.size + ys.size)) = true) (h1 : xs.size ≤ sizeLine) (h2 : xs.size + ys.size ≤ sizeLine + 1) :
    Meets (Builtin.«list.extend» ⟨[.ref l, .ref b], []⟩) (fun _ R s => s.heap.get? l = some { cls := .type "list", dict := none, data := .seq xs n, slots := #[] } ∧ s.heap.get? b = some { cls := .type "tuple", dict := dd, data := .seq ys m, slots := sl } ∧
      R (.ok (.ret Value.none)) { s with heap := s.heap.update l (Obj.mapSeq fun x => x ++ ys), toks := s.toks }) :=
  .of_wp fun prog w A R s h => by
    obtain ⟨hp, g, d, tk, os⟩ := s
    obtain ⟨el, eb, h⟩ := h
    have f1 := AutoSeq1.idx_int
    have f2 := AutoSeq1.sub_tuple_tuple
    have f3 := AutoSeq1.sub_list_list
    have f4 := AutoSeq1.sub_tuple_list
    have f5 := AutoSeq1.sub_list_tuple
    have z : (xs ++ ys).size ≤ sizeLine + 1 := by rw [Array.size_append]; exact h2
    wp_walk using (wpAny_updateSeq el rfl (hz := h1) (_hz' := z)), AutoSeq1.wpAny_loadPart' el, AutoSeq1.wpAny_loadPart' eb
    exact ⟨_, rfl, h⟩
def rExtT (K : PySem.W.Frag) : V → List V → Hp → VK → Prop := fun x vs H Q => ∃ l b xs zs, x = .ref l ∧ vs = [.ref b] ∧ H l = some (.lst xs) ∧ SqT K H b zs ∧ xs.length + zs.length ≤ sizeLine ∧ Q .non (upd H l (.lst (xs ++ zs)))
theorem mt_extT {X : Cx} : MtM X "list.extend" (rExtT X.K) := by
  intro pins s σ H x vs v us Q I rx rv h
  obtain ⟨l, b, xs, zs, rfl, rfl, hl, hb, hz, q⟩ := h
  cases rx
  obtain ⟨u, rfl, ru⟩ := rv.one
  cases ru
  obtain ⟨_, its, n, r, el, eo⟩ := I.lstM hl
  obtain ⟨js, rj, ⟨ob, eb, cb, nb, db⟩, _⟩ := I.tuple hb
  have lj := rj.length
  obtain ⟨oc, od, odt, osl⟩ := ob
  dsimp only at cb db
  subst cb db
  have size : its.toArray.size + js.toArray.size ≤ sizeLine := by simp only [List.size_toArray]; omega
  have short : ¬ (!its.toArray.isEmpty && Builtin.List.listTooLong (its.toArray.size + js.toArray.size)) = true := by
    rw [notLongL size, Bool.and_false]; exact Bool.false_ne_true
  refine call_meets F.slot_list_extend ⟨_, eo, rfl⟩ F.entry_list_extend (F.args_list_extend_2 _ _) (ext_lt l b its.toArray js.toArray n nb _ _ short (by simp only [List.size_toArray]; omega) (by omega)) ⟨eo, eb, ?_⟩
  refine ⟨.non, _, I.lset (its' := its ++ js) hl eo (by simp) (r.append rj) ?_, rfl, q⟩
  rw [List.length_append]; omega
/-- enumerate of a tuple -/
theorem meets_en {v : Value} {o : Obj} {C : Heap → Prop} (B : Begins v o C) : Meets (Builtin.«enumerate.__new__» ⟨[.type "enumerate", v], []⟩) (fun _ R s => C s.heap ∧
      R (.ok (.ret (.ref (s.heap.push o).objs.size))) { s with heap := (s.heap.push o).push { cls := .type "enumerate", data := .fields #[.none, .bool false, .ref s.heap.objs.size, rawInt 0, .none, .none] } }) :=
  .of_wp fun prog w A R s h => by
    obtain ⟨hp, g, d, tk, os⟩ := s; obtain ⟨h1, h⟩ := h
    have hsub := sub_enumerate
    have it : ∀ {A' : Around} {E : Value → Shared → Prop} {Q : Value → Shared → Prop}, Q (.ref hp.objs.size) ⟨hp.push o, g, d, tk, os⟩ → wpAny (model prog w) A' (pyIter v) Q E ⟨hp, g, d, tk, os⟩ := fun q => B.iter prog w _ _ ⟨hp, g, d, tk, os⟩ _ h1 q
    wp_walk using it
    refine wpAny_stack_any fun st => wpAny_pure ?_
    split
    · rename_i c _ _ _ _ _
      cases (c == Value.type "enumerate") <;> (wp_walk using it; exact ⟨_, rfl, h⟩)
    · wp_walk using it
      exact ⟨_, rfl, h⟩
section
variable {prog : Program} {w : World} {A : Around} {E : Value → Shared → Prop} {s : Shared}
theorem call_en {t : Addr} {items : Array Value} {Q : Value → Shared → Prop} (ht : s.heap.IsTuple t items)
    (h : ∀ h', IsEnum h' (s.heap.objs.size + 1) s.heap.objs.size 0 .none → h'.IsTupleIter s.heap.objs.size t 0 → (∀ b o, s.heap.get? b = some o → h'.get? b = some o) → Q (.ref (s.heap.objs.size + 1)) { s with heap := h' }) :
    wpAny (model prog w) A (call (.type "enumerate") [.ref t]) Q E s := by
  refine callType_new F.called_enumerate (by decide) (F.typeCall_enumerate_1 _) (F.newCall_enumerate_1 _) (fun obj => F.args_object_init_2 obj _) F.entry_enumerate_new (meets_en (begins_tuple t items)) ⟨ht, ?_⟩
  have z : (s.heap.push { cls := .type "tuple_iterator", data := .fields #[.ref t, .int 0 0] }).objs.size = s.heap.objs.size + 1 := Heap.size_push ..
  show _ ∧ _
  rw [z]
  have e := Heap.get?_push_size (s.heap.push { cls := .type "tuple_iterator", data := .fields #[.ref t, .int 0 0] }) (o := { cls := .type "enumerate", data := .fields #[.none, .bool false, .ref s.heap.objs.size, rawInt 0, .none, .none] }) rfl
  rw [z] at e
  exact ⟨⟨_, e, rfl⟩, h _ e ⟨_, Heap.get?_push_of_some _ (Heap.get?_push_size _ rfl), rfl, rfl⟩ fun b o x => Heap.get?_push_of_some _ (Heap.get?_push_of_some _ x)⟩
end
/-- the turns of enumerate(t) -/
def ItE (K : PySem.W.Frag) (a : Addr) : It :=
  ⟨fun i H => ∃ (xs : List V) (x : V), SqT K H a xs ∧ xs[i]? = some x, fun i H v H' => ∃ T x, v = .ref T ∧ H T = none ∧ H' = upd H T (.tup [.int (i : Nat), x]) ∧ ∀ xs, SqT K H a xs → xs[i]? = some x, fun i H => ∃ xs : List V, SqT K H a xs ∧ xs.length = i⟩
theorem turn_en {P : Program} {w : World} {K : PySem.W.Frag} {elts : List Expr} {kk : Nat} {tpos : Pos} (a e it : Addr) :
    Turn P w K (.Tuple elts kk tpos) (ItE K a) [e, it] e (fun i h => (∃ old, IsEnum h e it ((0 : Int) + (i : Nat)) old) ∧ h.IsTupleIter it a i ∧ e ≠ it ∧ a ≠ e ∧ a ≠ it) where
  mem := by simp
  obj := fun i h st b hb => by
    obtain ⟨⟨old, he⟩, ⟨o, ho, hc, hd⟩, _⟩ := st
    rcases (show b = e ∨ b = it by simpa using hb) with z | z
    · rw [z]; exact ⟨_, he, fun v q => nomatch q⟩
    · rw [z]; exact ⟨o, ho, fun v q => by rw [hd] at q; cases q⟩
  keep := fun i h h' st k => let ⟨⟨old, he⟩, hi, hne⟩ := st; ⟨⟨old, k e (by simp) _ he⟩, hi.at fun o q => k it (by simp) o q, hne⟩
  item := by
    intro X hP hw hK hc i pins s σ H E I hf st hg
    subst hP hw hK
    obtain ⟨⟨old, he⟩, hit, hne, n1, n2⟩ := st
    obtain ⟨xs, x, hq, hx⟩ := hg
    obtain ⟨its, rv, p, hz⟩ := I.tuple hq
    obtain ⟨u, hu, ru⟩ := rv.get hx
    have lt : i < its.toArray.size := by rw [List.size_toArray]; exact (List.getElem?_eq_some_iff.mp hu).1
    have el : e < s.heap.objs.size := Heap.lt_size he
    have il : it < s.heap.objs.size := let ⟨_, q, _⟩ := hit; Heap.lt_size q
    have W := GoesN.enumFrom (prog := X.prog) (w := X.w) (A := X.A) (elts := elts) (x1 := kk) (pos := tpos) 0 (Draws.tuple (A := X.A.in1) (I.ok.hd hc) it a n2 its.toArray) e hne (by simp [hne, n1.symm]) (by simp)
    refine W.goes i s _ _ lt ⟨⟨old, he⟩, hit, p⟩ fun v h' tk Y st2 hk htk => ?_
    obtain ⟨T, t, y, rfl, hT, hy, o, ho, co, no, dto⟩ := Y
    have ey : y = u := Option.some.inj (hy.symm.trans (by simpa using hu))
    subst ey
    have new : ObjOk X.prog X.w (upd H T (.tup [.int (i : Nat), x])) h' T (.tup [.int (i : Nat), x]) :=
      ⟨by show 2 ≤ sizeLine; decide, [.int (0 + (i : Int)) t, y], .cons ⟨t, by rw [Int.zero_add]⟩ (.cons ru .nil), ⟨o, ho, co, no, dto⟩⟩
    have I1 : Inv X pins σ (upd H T (.tup [.int (i : Nat), x])) { s with heap := h', toks := tk } := I.turnedNew (t' := tk) (ch := [e, it]) hk hf hT new
    obtain ⟨⟨old2, he2⟩, hit2, _⟩ := st2
    refine ⟨.ref T, _, I1, rfl, ⟨T, x, rfl, I.hok.fresh hT, rfl, fun ys hy => by rw [I.tuple_inj hy hq]; exact hx⟩, ⟨⟨old2, he2⟩, hit2, hne, n1, n2⟩, fun b hb => ?_⟩
    have lb : b < s.heap.objs.size := by
      rcases (show b = e ∨ b = it by simpa using hb) with z | z
      · rw [z]; exact el
      · rw [z]; exact il
    rw [upd_ne (Nat.ne_of_lt (Nat.lt_of_lt_of_le lb hT))]
    exact (hf b hb).1
  done := by
    intro X hP hw hK hc i pins s σ H E I hf st hg
    subst hP hw hK
    obtain ⟨⟨old, he⟩, hit, hne, n1, n2⟩ := st
    obtain ⟨xs, hq, hx⟩ := hg
    obtain ⟨its, rv, p, hz⟩ := I.tuple hq
    have hl := rv.length
    have W := GoesN.enumFrom (prog := X.prog) (w := X.w) (A := X.A) (elts := elts) (x1 := kk) (pos := tpos) 0 (Draws.tuple (A := X.A.in1) (I.ok.hd hc) it a n2 its.toArray) e hne (by simp [hne, n1.symm]) (by simp)
    have ei : i = its.toArray.size := by rw [List.size_toArray]; omega
    subst ei
    refine wpAny_mono (W.stops s (fun s₁ => ∃ h' tk, s₁ = { s with heap := h', toks := tk } ∧ ∀ b o, b ∉ [e, it] → s.heap.get? b = some o → h'.get? b = some o) _ ⟨⟨old, he⟩, hit, p⟩ fun h' tk hk htk => ⟨h', tk, rfl, hk⟩) ?_ fun _ _ z => z
    rintro r s₁ ⟨er, h', tk, rfl, hk⟩
    exact ⟨er, I.turnedL (t' := tk) (ch := [e, it]) hk hf⟩
  self := fun A i s Q E st h => let ⟨⟨_, he⟩, _⟩ := st; wpAny_pyIter_enum he h
def iEn (K : PySem.W.Frag) (ta : TA) : TI := fun σ H R => ta σ H fun vs H1 => ∃ a xs, vs = [.ref a] ∧ SqT K H1 a xs ∧ R (ItE K a) H1
theorem pi_enT {X : Cx} {e : Expr} {ta : TA} {p pos tpos : Pos} {elts : List Expr} {kk : Nat} (hg : Gl X "enumerate") (hm : X.mg "enumerate" = none) (ha : PA X [e] ta) (hs : starEach [e] X.env = [(false, eval e X.env)] := by rfl) :
    PI X (.Tuple elts kk tpos) (.Call (.Name "enumerate" p) [e] [] pos) (iEn X.K ta) := by
  refine ⟨fun pins s σ H R I h => ?_⟩
  refine Call_ (ld_blt I hg hm boot_enumerate (PyProof.Rows.callWith_type1 (thn (ha.run pos pins s σ H _ I h) fun us s1 ⟨vs, H1, I1, r1, q1⟩ => ?_) hs rfl))
  obtain ⟨a, xs, rfl, hq, q⟩ := q1
  cases r1 with
  | cons r rr =>
    cases rr
    cases r
    obtain ⟨its, rv, pt, hz⟩ := I1.tuple hq
    have la : a < s1.heap.objs.size := let ⟨_, z, _⟩ := pt; Heap.lt_size z
    refine call_en (show s1.heap.IsTuple a its.toArray from pt) fun h' he hit hk => wpAny_pyIter_enum he ?_
    have I2 : Inv X pins σ H1 { s1 with heap := h' } := I1.kept (t' := s1.toks) hk
    refine ⟨s1.heap.objs.size + 1, [s1.heap.objs.size + 1, s1.heap.objs.size], _, _, H1, rfl, I2, turn_en a (s1.heap.objs.size + 1) s1.heap.objs.size, ⟨⟨.none, he⟩, hit, Nat.succ_ne_self _, Nat.ne_of_lt (Nat.lt_succ_of_lt la), Nat.ne_of_lt la⟩, fun b hb => ?_, q⟩
    have lb : s1.heap.objs.size ≤ b := by
      rcases (show b = s1.heap.objs.size + 1 ∨ b = s1.heap.objs.size by simpa using hb) with z | z
      · rw [z]; exact Nat.le_add_right _ _
      · rw [z]; exact Nat.le_refl _
    exact I1.fpOk lb (I1.hok.fresh lb)
/-- a loop over enumerate(t) -/
theorem for_en {K : PySem.W.Frag} {a : Addr} {xs : List V} {g : TG} {tb : TS} {D : Ends} {σ : L2.St} {H : Hp} (Pv : Nat → L2.St → Hp → Prop) (h0 : Pv 0 σ H) (hq : ∀ i σ H, i ≤ xs.length → Pv i σ H → SqT K H a xs)
    (hs : ∀ (i : Nat) (x : V) (T : Addr) (σ : L2.St) (H : Hp), xs[i]? = some x → Pv i σ H → H T = none → g (.ref T) σ (upd H T (.tup [.int (i : Nat), x])) fun σ2 H2 => tb { D with nx := Pv (i + 1), ct := Pv (i + 1), bk := D.nx } σ2 H2) (hd : ∀ σ H, Pv xs.length σ H → D.nx σ H) :
    ∃ W : Nat → Nat → L2.St → Hp → Prop, (∃ m, W 0 m σ H) ∧ ∀ i m σ H, W i m σ H →
      ((ItE K a).stop i H ∧ D.nx σ H) ∨ ((ItE K a).go i H ∧ ∃ N : L2.St → Hp → Prop, (∀ σ' H', N σ' H' → ∃ m', m' < m ∧ W (i + 1) m' σ' H') ∧ ∀ v H', (ItE K a).yld i H v H' → g v σ H' fun σ2 H2 => tb { D with nx := N, ct := N, bk := D.nx } σ2 H2) := by
  refine ⟨fun i m σ H => m = xs.length - i ∧ i ≤ xs.length ∧ Pv i σ H, ⟨xs.length, rfl, Nat.zero_le _, h0⟩, ?_⟩
  rintro i m σ H ⟨rfl, hi, p⟩
  have q := hq i σ H hi p
  by_cases lt : i < xs.length
  · have hx : xs[i]? = some xs[i] := List.getElem?_eq_getElem lt
    refine .inr ⟨⟨xs, _, q, hx⟩, Pv (i + 1), fun σ' H' p' => ⟨xs.length - (i + 1), by omega, rfl, lt, p'⟩, fun v H' y => ?_⟩
    obtain ⟨T, x, rfl, hT, rfl, f⟩ := y
    exact hs i x T σ H (f xs q) p hT
  · have e : i = xs.length := by omega
    subst e
    exact .inl ⟨⟨xs, q, rfl⟩, hd σ H p⟩
/-! ### a dict of the module: text keys, whole numbers -/
def entS (e : DictEntry) : Option (Str × Int) := match e.key, e.val with
  | .str x _, .int i _ => some (x, i)
  | _, _ => none
/-- at a stands the module's dict of these pairs -/
structure KD (K : PySem.W.Frag) (p : Params) (a : Addr) (kvs : List (Str × Int)) : Prop where
  at_ : ∃ es n, K.lookup a = some ⟨.type "dict", none, .dict es n, #[]⟩ ∧ PySem.W.KeysLit p es.toList ∧ es.toList.map entS = kvs.map some
  low : (a == sysModules) = false
  nd : (kvs.map (·.1)).Nodup
def kvV (kvs : List (Str × Int)) : List (Key × V) := kvs.map fun p => (.inr p.1, .int p.2)
theorem kd_rel {P : Program} {w : World} : ∀ {es : List DictEntry} {kvs : List (Str × Int)}, PySem.W.KeysLit w.params es → es.map entS = kvs.map some → (∀ e ∈ es, ∃ k : Key, keyIs k e.key = true ∧ e.hash = keyH w k) ∧ ∃ vs : List (Key × Value), KV (kvV kvs) vs ∧ Pairs (mixKind P w) es vs
  | [], [], _, _ => ⟨(fun e h => nomatch h), [], .nil, .nil⟩
  | [], _ :: _, _, h => by cases h
  | _ :: _, [], _, h => by cases h
  | e :: es, (x, i) :: kvs, hl, h => by
    obtain ⟨⟨y, t, ey, eh⟩, hl2⟩ := hl
    rw [List.map_cons, List.map_cons] at h
    injection h with h1 h2
    obtain ⟨a1, vs, a2, a3⟩ := kd_rel (P := P) hl2 h2
    obtain ⟨hash, key, val⟩ := e
    dsimp only at ey eh
    subst ey
    unfold entS at h1
    dsimp only at h1
    cases val with
    | int j u =>
      dsimp only at h1
      injection h1 with h1
      injection h1 with h3 h4
      subst h3 h4
      refine ⟨fun e he => ?_, (.inr y, .int j u) :: vs, .cons ⟨rfl, ⟨u, rfl⟩⟩ a2, .cons (keyIs_str y t) rfl a3⟩
      rcases List.mem_cons.mp he with z | z
      · rw [z]; exact ⟨.inr y, keyIs_str y t, eh⟩
      · exact a1 e z
    | _ => cases h1
theorem kd_dictOf {P : Program} {w : World} {K : PySem.W.Frag} {h : Heap} {a : Addr} {kvs : List (Str × Int)} (D : KD K w.params a kvs) (X : K.In h) : ∃ vs : List (Key × Value), KV (kvV kvs) vs ∧ h.DictOf (mixKind P w) a vs := by
  obtain ⟨es, n, e, hl, hm⟩ := D.at_
  obtain ⟨a1, vs, a2, a3⟩ := kd_rel (P := P) hl hm
  refine ⟨vs, a2, _, es, n, X _ _ e, ⟨rfl, rfl, rfl⟩, rfl, fun x hx => ?_, a3, ?_⟩
  · exact a1 x (Array.mem_toList_iff.mpr hx)
  · rw [← a2.keys]
    have : (kvV kvs).map (·.1) = (kvs.map (·.1)).map (Sum.inr : Str → Key) := by simp [kvV]
    rw [this]
    exact List.Pairwise.map _ (fun _ _ h e => h (Sum.inr.inj e)) D.nd
/-- dict(d) -/
theorem call_dictK {X : Cx} : CallR X (.type "dict") (fun xs H Q => ∃ (a : Addr) (kvs : List (Str × Int)), xs = [.ref a] ∧ KD X.K X.w.params a kvs ∧ kvs.length ≤ 1000 ∧ ∀ p, H p = none → Q (.ref p) (upd H p (.dK (kvV kvs)))) := by
  intro pins s σ H xs us Q I r q
  obtain ⟨a, kvs, rfl, D, hz, q⟩ := q
  obtain ⟨u, rfl, rx⟩ := vals1 r
  cases rx
  obtain ⟨vs, rel, dd⟩ := kd_dictOf (P := X.prog) D I.kIn
  have lz : (kvV kvs).length ≤ sizeLine := Nat.le_trans (by simp only [kvV, List.length_map]; exact hz) (by decide)
  refine kt_call_dict D.low dd (by rw [← rel.length]; exact lz) fun h' d' hs => ?_
  have hm : (s.heap.objs.size == sysModules) = false := beq_eq_false_iff_ne.mpr (Nat.ne_of_gt I.big)
  exact ⟨.ref s.heap.objs.size, _, I.laid (t' := s.toks) (fun b u e => (hs.2 b (Nat.ne_of_lt (Heap.lt_size e))).trans (Heap.get?_push_of_some _ e)) (Nat.le_refl _) (show ObjOk X.prog X.w _ _ _ (.dK (kvV kvs)) from ⟨lz, hm, vs, rel, d'⟩), rfl, q _ (I.hok.fresh (Nat.le_refl _))⟩
def lkI (kvs : List (Str × Int)) (z : Str) : Option Int := (kvs.find? fun p => decide (p.1 = z)).map (·.2)
/-- z in d -/
theorem op_inK {X : Cx} : OpR X (compareOp .In) (fun x y H Q => ∃ (a : Addr) (kvs : List (Str × Int)) (z : Str), x = .str z ∧ y = .ref a ∧ KD X.K X.w.params a kvs ∧ Q (.bl (lkI kvs z).isSome) H) := by
  intro pins s σ H x y v u Q I rx ry h
  obtain ⟨a, kvs, z, rfl, rfl, D, q⟩ := h
  obtain ⟨es, n, e, hl, hm⟩ := D.at_
  have f : PySem.W.nsIn X.K a z = some ((es.toList.find? (·.key.isStr z)).map (·.val)) ∧ ((es.toList.find? (·.key.isStr z)).map (·.val)).isSome = (lkI kvs z).isSome := by
    unfold PySem.W.nsIn
    rw [e]
    dsimp only
    generalize es.toList = l at hl hm
    clear e q D
    induction l generalizing kvs with
    | nil =>
      cases kvs with
      | nil => exact ⟨rfl, rfl⟩
      | cons p r => cases hm
    | cons e l ih =>
      cases kvs with
      | nil => cases hm
      | cons p r =>
        obtain ⟨⟨y, t, ey, eh⟩, hl2⟩ := hl
        rw [List.map_cons, List.map_cons] at hm
        injection hm with h1 h2
        have hi := ih r hl2 h2
        obtain ⟨hash, key, val⟩ := e
        dsimp only at ey
        subst ey
        have ep : p.1 = y := by
          unfold entS at h1
          dsimp only at h1
          cases val <;> first | (cases h1; done) | (dsimp only at h1; injection h1 with h1; rw [← h1])
        by_cases hz : y = z
        · subst hz
          simp [List.find?_cons, Value.isStr, lkI, ep]
        · have b1 : (Value.str y t).isStr z = false := by simp [Value.isStr, hz]
          rw [List.find?_cons, b1]
          dsimp only
          have b2 : lkI (p :: r) z = lkI r z := by
            unfold lkI
            rw [List.find?_cons, decide_eq_false (by rw [ep]; exact hz)]
          rw [b2]
          have b3 : (⟨hash, .str y t, val⟩ :: l : List DictEntry).any (·.refKey) = l.any (·.refKey) := by
            rw [List.any_cons]; rfl
          rw [b3]
          exact hi
  refine op_in_kd ⟨e, hl, D.low⟩ pins s σ H _ _ v u Q I rx ry ⟨z, _, rfl, rfl, f.1, ?_⟩
  rw [f.2]; exact q
/-- the module's tuple of texts -/
structure KT (K : PySem.W.Frag) (a : Addr) (xs : List Str) : Prop where
  at_ : ∃ its n, K.lookup a = some ⟨.type "tuple", none, .seq its n, #[]⟩ ∧ its.toList.map (fun v => match v with | .str x _ => some x | _ => none) = xs.map some
  len : xs.length ≤ 1000
theorem KT.sqT {K : PySem.W.Frag} {a : Addr} {xs : List Str} (D : KT K a xs) (H : Hp) : SqT K H a (xs.map V.str) := by
  obtain ⟨its, n, e, hm⟩ := D.at_
  have hl : its.toList.length = xs.length := by simpa using congrArg List.length hm
  have sz := D.len
  refine .inr ⟨_, its, n, e, rfl, rfl, Nat.le_trans (by rw [← Array.length_toList]; omega) (show 1000 ≤ sizeLine by decide), ?_⟩
  clear hl e sz D
  generalize its.toList = l at hm
  induction l generalizing xs with
  | nil =>
    cases xs with
    | nil => exact .nil
    | cons p r => cases hm
  | cons v l ih =>
    cases xs with
    | nil => cases hm
    | cons p r =>
      rw [List.map_cons, List.map_cons] at hm
      injection hm with h1 h2
      cases v <;> first | (cases h1; done) | (injection h1 with h1; subst h1; exact .cons ⟨_, rfl⟩ (ih h2))
end OR

namespace K24
open PySem L2 OG
def topS (i : Nat) : Stmt := PySem.Challenge.pw_ownglass_k24_made_tree.main.body.getD i (.Pass ⟨0, 0, 0, 0⟩)
abbrev s_is_word : Stmt := topS 8
theorem sc_is_word : FnScope ["value"] ["value"] (defScope s_is_word) := ⟨rfl, rfl, rfl, by decide +kernel, rfl, by decide +kernel, by decide +kernel⟩
abbrev s_has_head : Stmt := topS 9
theorem sc_has_head : FnScope ["function"] ["function"] (defScope s_has_head) := ⟨rfl, rfl, rfl, by decide +kernel, rfl, by decide +kernel, by decide +kernel⟩
abbrev s_counts_of : Stmt := topS 10
theorem sc_counts_of : FnScope ["program", "counts", "function"] ["program"] (defScope s_counts_of) := ⟨rfl, rfl, rfl, by decide +kernel, rfl, by decide +kernel, by decide +kernel⟩
abbrev s_name_fits : Stmt := topS 11
theorem sc_name_fits : FnScope ["name", "names", "many", "figures"] ["name", "names", "many"] (defScope s_name_fits) := ⟨rfl, rfl, rfl, by decide +kernel, rfl, by decide +kernel, by decide +kernel⟩
abbrev s_parameters_fit : Stmt := topS 12
theorem sc_parameters_fit : FnScope ["parameters", "at", "parameter"] ["parameters"] (defScope s_parameters_fit) := ⟨rfl, rfl, rfl, by decide +kernel, rfl, by decide +kernel, by decide +kernel⟩
abbrev s_body_fits : Stmt := topS 13
theorem sc_body_fits : FnScope ["body", "parameters", "counts", "waiting", "expression"] ["body", "parameters", "counts"] (defScope s_body_fits) := ⟨rfl, rfl, rfl, by decide +kernel, rfl, by decide +kernel, by decide +kernel⟩
abbrev s_check_program : Stmt := topS 14
theorem sc_check_program : FnScope ["value", "counts", "names", "number", "function", "name", "parameters", "body"] ["value"] (defScope s_check_program) := ⟨rfl, rfl, rfl, by decide +kernel, rfl, by decide +kernel, by decide +kernel⟩
abbrev s_inputs_of : Stmt := topS 15
theorem sc_inputs_of : FnScope ["program"] ["program"] (defScope s_inputs_of) := ⟨rfl, rfl, rfl, by decide +kernel, rfl, by decide +kernel, by decide +kernel⟩
abbrev s_made_name : Stmt := topS 19
theorem sc_made_name : FnScope ["number"] ["number"] (defScope s_made_name) := ⟨rfl, rfl, rfl, by decide +kernel, rfl, by decide +kernel, by decide +kernel⟩
abbrev s_made_parameters : Stmt := topS 20
theorem sc_made_parameters : FnScope ["many", "k"] ["many"] (defScope s_made_parameters) := ⟨rfl, rfl, rfl, by decide +kernel, rfl, by decide +kernel, by decide +kernel⟩
abbrev s_renamed_expression : Stmt := topS 21
theorem sc_renamed_expression : FnScope ["expression", "names", "waiting", "made", "one", "is_ready", "word", "part", "_"] ["expression", "names"] (defScope s_renamed_expression) := ⟨rfl, rfl, rfl, by decide +kernel, rfl, by decide +kernel, by decide +kernel⟩
abbrev s_renamed : Stmt := topS 22
theorem sc_renamed : FnScope ["program", "start", "names", "number", "name", "parameters", "body"] ["program", "start"] (defScope s_renamed) := ⟨rfl, rfl, rfl, by decide +kernel, rfl, by decide +kernel, by decide +kernel⟩
abbrev s_joined : Stmt := topS 23
theorem sc_joined : FnScope ["programs", "functions", "mains", "program"] ["programs"] (defScope s_joined) := ⟨rfl, rfl, rfl, by decide +kernel, rfl, by decide +kernel, by decide +kernel⟩
abbrev s_with_main : Stmt := topS 24
theorem sc_with_main : FnScope ["functions", "parameters", "body"] ["functions", "parameters", "body"] (defScope s_with_main) := ⟨rfl, rfl, rfl, by decide +kernel, rfl, by decide +kernel, by decide +kernel⟩
abbrev s_fill_function : Stmt := topS 25
theorem sc_fill_function : FnScope ["main", "number", "value", "many", "parameters"] ["main", "number", "value", "many"] (defScope s_fill_function) := ⟨rfl, rfl, rfl, by decide +kernel, rfl, by decide +kernel, by decide +kernel⟩
abbrev s_fill : Stmt := topS 26
theorem sc_fill : FnScope ["program", "value", "many"] ["program", "value"] (defScope s_fill) := ⟨rfl, rfl, rfl, by decide +kernel, rfl, by decide +kernel, by decide +kernel⟩
abbrev s_quoted : Stmt := topS 28
theorem sc_quoted : FnScope ["value"] ["value"] (defScope s_quoted) := ⟨rfl, rfl, rfl, by decide +kernel, rfl, by decide +kernel, by decide +kernel⟩
abbrev s_listed : Stmt := topS 29
theorem sc_listed : FnScope ["parts", "found", "part"] ["parts"] (defScope s_listed) := ⟨rfl, rfl, rfl, by decide +kernel, rfl, by decide +kernel, by decide +kernel⟩
abbrev s_filled_tree : Stmt := topS 30
theorem sc_filled_tree : FnScope ["main", "number", "many", "inputs", "value", "body", "function"] ["main", "number", "many"] (defScope s_filled_tree) := ⟨rfl, rfl, rfl, by decide +kernel, rfl, by decide +kernel, by decide +kernel⟩
abbrev s_know_own : Stmt := topS 31
theorem sc_know_own : FnScope ["program", "many", "main", "tree", "inputs", "knowing", "functions", "mains"] ["program"] (defScope s_know_own) := ⟨rfl, rfl, rfl, by decide +kernel, rfl, by decide +kernel, by decide +kernel⟩
abbrev s_law_draws : Stmt := topS 33
theorem sc_law_draws : FnScope ["_law_script", "_law_many", "_law_rests", "_law_draws_here", "_law_k", "_law_cell", "_law_mixed", "_law_at"] ["_law_script", "_law_many"] (defScope s_law_draws) := ⟨rfl, rfl, rfl, by decide +kernel, rfl, by decide +kernel, by decide +kernel⟩
abbrev s_law_take : Stmt := topS 34
theorem sc_law_take : FnScope ["_law_hand", "_law_many", "_law_at", "_law_draws_here"] ["_law_hand", "_law_many"] (defScope s_law_take) := ⟨rfl, rfl, rfl, by decide +kernel, rfl, by decide +kernel, by decide +kernel⟩
abbrev s_law_value : Stmt := topS 35
theorem sc_law_value : FnScope ["_law_hand", "_law_depth", "_law_k"] ["_law_hand", "_law_depth"] (defScope s_law_value) := ⟨rfl, rfl, rfl, by decide +kernel, rfl, by decide +kernel, by decide +kernel⟩
abbrev s_law_expression : Stmt := topS 36
theorem sc_law_expression : FnScope ["_law_hand", "_law_parameters", "_law_calls", "_law_depth", "_law_kind", "_law_parts", "_law_left", "_law_name", "_law_many", "_law_k"] ["_law_hand", "_law_parameters", "_law_calls", "_law_depth"] (defScope s_law_expression) := ⟨rfl, rfl, rfl, by decide +kernel, rfl, by decide +kernel, by decide +kernel⟩
abbrev s_law_renamed : Stmt := topS 37
theorem sc_law_renamed : FnScope ["_law_expression_here", "_law_names", "_law_parts", "_law_part"] ["_law_expression_here", "_law_names"] (defScope s_law_renamed) := ⟨rfl, rfl, rfl, by decide +kernel, rfl, by decide +kernel, by decide +kernel⟩
abbrev s_law_listed : Stmt := topS 38
theorem sc_law_listed : FnScope ["_law_parts", "_law_found", "_law_k"] ["_law_parts"] (defScope s_law_listed) := ⟨rfl, rfl, rfl, by decide +kernel, rfl, by decide +kernel, by decide +kernel⟩
abbrev s_law_known : Stmt := topS 39
theorem sc_law_known : FnScope ["_law_program", "_law_many", "_law_names", "_law_k", "_law_functions", "_law_inputs", "_law_main", "_law_front", "_law_body", "_law_tree", "_law_knowing", "_law_name", "_law_parameters"] ["_law_program", "_law_many"] (defScope s_law_known) := ⟨rfl, rfl, rfl, by decide +kernel, rfl, by decide +kernel, by decide +kernel⟩
abbrev s_law_any : Stmt := topS 40
theorem sc_law_any : FnScope ["_law_hand", "_law_many", "_law_names", "_law_calls", "_law_name", "_law_functions", "_law_inputs", "_law_parameters"] ["_law_hand"] (defScope s_law_any) := ⟨rfl, rfl, rfl, by decide +kernel, rfl, by decide +kernel, by decide +kernel⟩
abbrev s_law : Stmt := topS 41
theorem sc_law : FnScope ["_law_script", "_law_hand", "_law_program", "_law_due", "_law_made"] ["_law_script"] (defScope s_law) := ⟨rfl, rfl, rfl, by decide +kernel, rfl, by decide +kernel, by decide +kernel⟩
structure Top (K : PySem.W.Frag) (mg : Str → Option Value) : Type where
  a_is_word : Addr
  d_is_word : FuncData
  F_is_word : Fun K "is_word" "is_word" s_is_word a_is_word d_is_word
  b_is_word : Binds K d_is_word ["value"] []
  m_is_word : mg "is_word" = some (.ref a_is_word)
  a_has_head : Addr
  d_has_head : FuncData
  F_has_head : Fun K "has_head" "has_head" s_has_head a_has_head d_has_head
  b_has_head : Binds K d_has_head ["function"] []
  m_has_head : mg "has_head" = some (.ref a_has_head)
  a_counts_of : Addr
  d_counts_of : FuncData
  F_counts_of : Fun K "counts_of" "counts_of" s_counts_of a_counts_of d_counts_of
  b_counts_of : Binds K d_counts_of ["program"] []
  m_counts_of : mg "counts_of" = some (.ref a_counts_of)
  a_name_fits : Addr
  d_name_fits : FuncData
  F_name_fits : Fun K "name_fits" "name_fits" s_name_fits a_name_fits d_name_fits
  b_name_fits : Binds K d_name_fits ["name", "names", "many"] []
  m_name_fits : mg "name_fits" = some (.ref a_name_fits)
  a_parameters_fit : Addr
  d_parameters_fit : FuncData
  F_parameters_fit : Fun K "parameters_fit" "parameters_fit" s_parameters_fit a_parameters_fit d_parameters_fit
  b_parameters_fit : Binds K d_parameters_fit ["parameters"] []
  m_parameters_fit : mg "parameters_fit" = some (.ref a_parameters_fit)
  a_body_fits : Addr
  d_body_fits : FuncData
  F_body_fits : Fun K "body_fits" "body_fits" s_body_fits a_body_fits d_body_fits
  b_body_fits : Binds K d_body_fits ["body", "parameters", "counts"] []
  m_body_fits : mg "body_fits" = some (.ref a_body_fits)
  a_check_program : Addr
  d_check_program : FuncData
  F_check_program : Fun K "check_program" "check_program" s_check_program a_check_program d_check_program
  b_check_program : Binds K d_check_program ["value"] []
  m_check_program : mg "check_program" = some (.ref a_check_program)
  a_inputs_of : Addr
  d_inputs_of : FuncData
  F_inputs_of : Fun K "inputs_of" "inputs_of" s_inputs_of a_inputs_of d_inputs_of
  b_inputs_of : Binds K d_inputs_of ["program"] []
  m_inputs_of : mg "inputs_of" = some (.ref a_inputs_of)
  a_made_name : Addr
  d_made_name : FuncData
  F_made_name : Fun K "made_name" "made_name" s_made_name a_made_name d_made_name
  b_made_name : Binds K d_made_name ["number"] []
  m_made_name : mg "made_name" = some (.ref a_made_name)
  a_made_parameters : Addr
  d_made_parameters : FuncData
  F_made_parameters : Fun K "made_parameters" "made_parameters" s_made_parameters a_made_parameters d_made_parameters
  b_made_parameters : Binds K d_made_parameters ["many"] []
  m_made_parameters : mg "made_parameters" = some (.ref a_made_parameters)
  a_renamed_expression : Addr
  d_renamed_expression : FuncData
  F_renamed_expression : Fun K "renamed_expression" "renamed_expression" s_renamed_expression a_renamed_expression d_renamed_expression
  b_renamed_expression : Binds K d_renamed_expression ["expression", "names"] []
  m_renamed_expression : mg "renamed_expression" = some (.ref a_renamed_expression)
  a_renamed : Addr
  d_renamed : FuncData
  F_renamed : Fun K "renamed" "renamed" s_renamed a_renamed d_renamed
  b_renamed : Binds K d_renamed ["program", "start"] []
  m_renamed : mg "renamed" = some (.ref a_renamed)
  a_joined : Addr
  d_joined : FuncData
  F_joined : Fun K "joined" "joined" s_joined a_joined d_joined
  b_joined : Binds K d_joined ["programs"] []
  m_joined : mg "joined" = some (.ref a_joined)
  a_with_main : Addr
  d_with_main : FuncData
  F_with_main : Fun K "with_main" "with_main" s_with_main a_with_main d_with_main
  b_with_main : Binds K d_with_main ["functions", "parameters", "body"] []
  m_with_main : mg "with_main" = some (.ref a_with_main)
  a_fill_function : Addr
  d_fill_function : FuncData
  F_fill_function : Fun K "fill_function" "fill_function" s_fill_function a_fill_function d_fill_function
  b_fill_function : Binds K d_fill_function ["main", "number", "value", "many"] []
  m_fill_function : mg "fill_function" = some (.ref a_fill_function)
  a_fill : Addr
  d_fill : FuncData
  F_fill : Fun K "fill" "fill" s_fill a_fill d_fill
  b_fill : Binds K d_fill ["program", "value"] []
  m_fill : mg "fill" = some (.ref a_fill)
  a_quoted : Addr
  d_quoted : FuncData
  F_quoted : Fun K "quoted" "quoted" s_quoted a_quoted d_quoted
  b_quoted : Binds K d_quoted ["value"] []
  m_quoted : mg "quoted" = some (.ref a_quoted)
  a_listed : Addr
  d_listed : FuncData
  F_listed : Fun K "listed" "listed" s_listed a_listed d_listed
  b_listed : Binds K d_listed ["parts"] []
  m_listed : mg "listed" = some (.ref a_listed)
  a_filled_tree : Addr
  d_filled_tree : FuncData
  F_filled_tree : Fun K "filled_tree" "filled_tree" s_filled_tree a_filled_tree d_filled_tree
  b_filled_tree : Binds K d_filled_tree ["main", "number", "many"] []
  m_filled_tree : mg "filled_tree" = some (.ref a_filled_tree)
  a_know_own : Addr
  d_know_own : FuncData
  F_know_own : Fun K "know_own" "know_own" s_know_own a_know_own d_know_own
  b_know_own : Binds K d_know_own ["program"] []
  m_know_own : mg "know_own" = some (.ref a_know_own)
  a_law_draws : Addr
  d_law_draws : FuncData
  F_law_draws : Fun K "_law_draws" "_law_draws" s_law_draws a_law_draws d_law_draws
  b_law_draws : Binds K d_law_draws ["_law_script", "_law_many"] []
  m_law_draws : mg "_law_draws" = some (.ref a_law_draws)
  a_law_take : Addr
  d_law_take : FuncData
  F_law_take : Fun K "_law_take" "_law_take" s_law_take a_law_take d_law_take
  b_law_take : Binds K d_law_take ["_law_hand", "_law_many"] []
  m_law_take : mg "_law_take" = some (.ref a_law_take)
  a_law_value : Addr
  d_law_value : FuncData
  F_law_value : Fun K "_law_value" "_law_value" s_law_value a_law_value d_law_value
  b_law_value : Binds K d_law_value ["_law_hand", "_law_depth"] []
  m_law_value : mg "_law_value" = some (.ref a_law_value)
  a_law_expression : Addr
  d_law_expression : FuncData
  F_law_expression : Fun K "_law_expression" "_law_expression" s_law_expression a_law_expression d_law_expression
  b_law_expression : Binds K d_law_expression ["_law_hand", "_law_parameters", "_law_calls", "_law_depth"] []
  m_law_expression : mg "_law_expression" = some (.ref a_law_expression)
  a_law_renamed : Addr
  d_law_renamed : FuncData
  F_law_renamed : Fun K "_law_renamed" "_law_renamed" s_law_renamed a_law_renamed d_law_renamed
  b_law_renamed : Binds K d_law_renamed ["_law_expression_here", "_law_names"] []
  m_law_renamed : mg "_law_renamed" = some (.ref a_law_renamed)
  a_law_listed : Addr
  d_law_listed : FuncData
  F_law_listed : Fun K "_law_listed" "_law_listed" s_law_listed a_law_listed d_law_listed
  b_law_listed : Binds K d_law_listed ["_law_parts"] []
  m_law_listed : mg "_law_listed" = some (.ref a_law_listed)
  a_law_known : Addr
  d_law_known : FuncData
  F_law_known : Fun K "_law_known" "_law_known" s_law_known a_law_known d_law_known
  b_law_known : Binds K d_law_known ["_law_program", "_law_many"] []
  m_law_known : mg "_law_known" = some (.ref a_law_known)
  a_law_any : Addr
  d_law_any : FuncData
  F_law_any : Fun K "_law_any" "_law_any" s_law_any a_law_any d_law_any
  b_law_any : Binds K d_law_any ["_law_hand"] []
  m_law_any : mg "_law_any" = some (.ref a_law_any)
  a_law : Addr
  d_law : FuncData
  F_law : Fun K "law" "law" s_law a_law d_law
  b_law : Binds K d_law ["_law_script"] []
  m_law : mg "law" = some (.ref a_law)
  n_isinstance : mg "isinstance" = none
  n_str : mg "str" = none
  n_len : mg "len" = none
  n_dict : mg "dict" = none
  n_int : mg "int" = none
  n_enumerate : mg "enumerate" = none
  n_tuple : mg "tuple" = none
  n_range : mg "range" = none
  n_reversed : mg "reversed" = none
  n_abs : mg "abs" = none
  prm : Params
  a_SPECIAL_WORDS : Addr
  c_SPECIAL_WORDS : mg "SPECIAL_WORDS" = some (.ref a_SPECIAL_WORDS)
  k_SPECIAL_WORDS : OR.KD K prm a_SPECIAL_WORDS [(("quote" : Str), (1 : Int)), (("if" : Str), (3 : Int)), (("same" : Str), (2 : Int)), (("word" : Str), (1 : Int)), (("head" : Str), (1 : Int)), (("tail" : Str), (1 : Int)), (("join" : Str), (2 : Int))]
  t_FIGURES : Tok
  c_FIGURES : mg "FIGURES" = some (.str "0123456789" t_FIGURES)
  t_MOST_PARAMETERS : Tok
  c_MOST_PARAMETERS : mg "MOST_PARAMETERS" = some (.int 12 t_MOST_PARAMETERS)
  a_SPECIAL : Addr
  c_SPECIAL : mg "SPECIAL" = some (.ref a_SPECIAL)
  k_SPECIAL : OR.KT K a_SPECIAL [("quote" : Str), ("if" : Str), ("same" : Str), ("word" : Str), ("head" : Str), ("tail" : Str), ("join" : Str)]
  t_MOST_INPUTS : Tok
  c_MOST_INPUTS : mg "MOST_INPUTS" = some (.int 8 t_MOST_INPUTS)
def all_mk {K : PySem.W.Frag} {h : Heap} {mg : Str → Option Value} (prm : Params) (X : K.In h) (G : h.Ns mainGlobals mg)
    {f0 : Addr} {od0 an0 : Option Addr} {sl0 : Array (Option Value)} {oc0 kV0 dc0 pm0 cd0 ct0 : Value}
    (qa0 : PySem.W.nsIn K mainGlobals "is_word" = some (some (.ref f0))) (ql0 : K.lookup f0 = some ⟨oc0, od0, .func (PySem.W.fnOf "is_word" "is_word" (defArgs s_is_word) (defBody s_is_word) (defScope s_is_word) .none kV0 dc0 pm0 an0 cd0 ct0), sl0⟩) (qc0 : PySem.W.codeIn K cd0 "is_word" = true) (qk0 : PySem.W.keepIn K (.ref f0) = true)
    {f1 : Addr} {od1 an1 : Option Addr} {sl1 : Array (Option Value)} {oc1 kV1 dc1 pm1 cd1 ct1 : Value}
    (qa1 : PySem.W.nsIn K mainGlobals "has_head" = some (some (.ref f1))) (ql1 : K.lookup f1 = some ⟨oc1, od1, .func (PySem.W.fnOf "has_head" "has_head" (defArgs s_has_head) (defBody s_has_head) (defScope s_has_head) .none kV1 dc1 pm1 an1 cd1 ct1), sl1⟩) (qc1 : PySem.W.codeIn K cd1 "has_head" = true) (qk1 : PySem.W.keepIn K (.ref f1) = true)
    {f2 : Addr} {od2 an2 : Option Addr} {sl2 : Array (Option Value)} {oc2 kV2 dc2 pm2 cd2 ct2 : Value}
    (qa2 : PySem.W.nsIn K mainGlobals "counts_of" = some (some (.ref f2))) (ql2 : K.lookup f2 = some ⟨oc2, od2, .func (PySem.W.fnOf "counts_of" "counts_of" (defArgs s_counts_of) (defBody s_counts_of) (defScope s_counts_of) .none kV2 dc2 pm2 an2 cd2 ct2), sl2⟩) (qc2 : PySem.W.codeIn K cd2 "counts_of" = true) (qk2 : PySem.W.keepIn K (.ref f2) = true)
    {f3 : Addr} {od3 an3 : Option Addr} {sl3 : Array (Option Value)} {oc3 kV3 dc3 pm3 cd3 ct3 : Value}
    (qa3 : PySem.W.nsIn K mainGlobals "name_fits" = some (some (.ref f3))) (ql3 : K.lookup f3 = some ⟨oc3, od3, .func (PySem.W.fnOf "name_fits" "name_fits" (defArgs s_name_fits) (defBody s_name_fits) (defScope s_name_fits) .none kV3 dc3 pm3 an3 cd3 ct3), sl3⟩) (qc3 : PySem.W.codeIn K cd3 "name_fits" = true) (qk3 : PySem.W.keepIn K (.ref f3) = true)
    {f4 : Addr} {od4 an4 : Option Addr} {sl4 : Array (Option Value)} {oc4 kV4 dc4 pm4 cd4 ct4 : Value}
    (qa4 : PySem.W.nsIn K mainGlobals "parameters_fit" = some (some (.ref f4))) (ql4 : K.lookup f4 = some ⟨oc4, od4, .func (PySem.W.fnOf "parameters_fit" "parameters_fit" (defArgs s_parameters_fit) (defBody s_parameters_fit) (defScope s_parameters_fit) .none kV4 dc4 pm4 an4 cd4 ct4), sl4⟩) (qc4 : PySem.W.codeIn K cd4 "parameters_fit" = true) (qk4 : PySem.W.keepIn K (.ref f4) = true)
    {f5 : Addr} {od5 an5 : Option Addr} {sl5 : Array (Option Value)} {oc5 kV5 dc5 pm5 cd5 ct5 : Value}
    (qa5 : PySem.W.nsIn K mainGlobals "body_fits" = some (some (.ref f5))) (ql5 : K.lookup f5 = some ⟨oc5, od5, .func (PySem.W.fnOf "body_fits" "body_fits" (defArgs s_body_fits) (defBody s_body_fits) (defScope s_body_fits) .none kV5 dc5 pm5 an5 cd5 ct5), sl5⟩) (qc5 : PySem.W.codeIn K cd5 "body_fits" = true) (qk5 : PySem.W.keepIn K (.ref f5) = true)
    {f6 : Addr} {od6 an6 : Option Addr} {sl6 : Array (Option Value)} {oc6 kV6 dc6 pm6 cd6 ct6 : Value}
    (qa6 : PySem.W.nsIn K mainGlobals "check_program" = some (some (.ref f6))) (ql6 : K.lookup f6 = some ⟨oc6, od6, .func (PySem.W.fnOf "check_program" "check_program" (defArgs s_check_program) (defBody s_check_program) (defScope s_check_program) .none kV6 dc6 pm6 an6 cd6 ct6), sl6⟩) (qc6 : PySem.W.codeIn K cd6 "check_program" = true) (qk6 : PySem.W.keepIn K (.ref f6) = true)
    {f7 : Addr} {od7 an7 : Option Addr} {sl7 : Array (Option Value)} {oc7 kV7 dc7 pm7 cd7 ct7 : Value}
    (qa7 : PySem.W.nsIn K mainGlobals "inputs_of" = some (some (.ref f7))) (ql7 : K.lookup f7 = some ⟨oc7, od7, .func (PySem.W.fnOf "inputs_of" "inputs_of" (defArgs s_inputs_of) (defBody s_inputs_of) (defScope s_inputs_of) .none kV7 dc7 pm7 an7 cd7 ct7), sl7⟩) (qc7 : PySem.W.codeIn K cd7 "inputs_of" = true) (qk7 : PySem.W.keepIn K (.ref f7) = true)
    {f8 : Addr} {od8 an8 : Option Addr} {sl8 : Array (Option Value)} {oc8 kV8 dc8 pm8 cd8 ct8 : Value}
    (qa8 : PySem.W.nsIn K mainGlobals "made_name" = some (some (.ref f8))) (ql8 : K.lookup f8 = some ⟨oc8, od8, .func (PySem.W.fnOf "made_name" "made_name" (defArgs s_made_name) (defBody s_made_name) (defScope s_made_name) .none kV8 dc8 pm8 an8 cd8 ct8), sl8⟩) (qc8 : PySem.W.codeIn K cd8 "made_name" = true) (qk8 : PySem.W.keepIn K (.ref f8) = true)
    {f9 : Addr} {od9 an9 : Option Addr} {sl9 : Array (Option Value)} {oc9 kV9 dc9 pm9 cd9 ct9 : Value}
    (qa9 : PySem.W.nsIn K mainGlobals "made_parameters" = some (some (.ref f9))) (ql9 : K.lookup f9 = some ⟨oc9, od9, .func (PySem.W.fnOf "made_parameters" "made_parameters" (defArgs s_made_parameters) (defBody s_made_parameters) (defScope s_made_parameters) .none kV9 dc9 pm9 an9 cd9 ct9), sl9⟩) (qc9 : PySem.W.codeIn K cd9 "made_parameters" = true) (qk9 : PySem.W.keepIn K (.ref f9) = true)
    {f10 : Addr} {od10 an10 : Option Addr} {sl10 : Array (Option Value)} {oc10 kV10 dc10 pm10 cd10 ct10 : Value}
    (qa10 : PySem.W.nsIn K mainGlobals "renamed_expression" = some (some (.ref f10))) (ql10 : K.lookup f10 = some ⟨oc10, od10, .func (PySem.W.fnOf "renamed_expression" "renamed_expression" (defArgs s_renamed_expression) (defBody s_renamed_expression) (defScope s_renamed_expression) .none kV10 dc10 pm10 an10 cd10 ct10), sl10⟩) (qc10 : PySem.W.codeIn K cd10 "renamed_expression" = true) (qk10 : PySem.W.keepIn K (.ref f10) = true)
    {f11 : Addr} {od11 an11 : Option Addr} {sl11 : Array (Option Value)} {oc11 kV11 dc11 pm11 cd11 ct11 : Value}
    (qa11 : PySem.W.nsIn K mainGlobals "renamed" = some (some (.ref f11))) (ql11 : K.lookup f11 = some ⟨oc11, od11, .func (PySem.W.fnOf "renamed" "renamed" (defArgs s_renamed) (defBody s_renamed) (defScope s_renamed) .none kV11 dc11 pm11 an11 cd11 ct11), sl11⟩) (qc11 : PySem.W.codeIn K cd11 "renamed" = true) (qk11 : PySem.W.keepIn K (.ref f11) = true)
    {f12 : Addr} {od12 an12 : Option Addr} {sl12 : Array (Option Value)} {oc12 kV12 dc12 pm12 cd12 ct12 : Value}
    (qa12 : PySem.W.nsIn K mainGlobals "joined" = some (some (.ref f12))) (ql12 : K.lookup f12 = some ⟨oc12, od12, .func (PySem.W.fnOf "joined" "joined" (defArgs s_joined) (defBody s_joined) (defScope s_joined) .none kV12 dc12 pm12 an12 cd12 ct12), sl12⟩) (qc12 : PySem.W.codeIn K cd12 "joined" = true) (qk12 : PySem.W.keepIn K (.ref f12) = true)
    {f13 : Addr} {od13 an13 : Option Addr} {sl13 : Array (Option Value)} {oc13 kV13 dc13 pm13 cd13 ct13 : Value}
    (qa13 : PySem.W.nsIn K mainGlobals "with_main" = some (some (.ref f13))) (ql13 : K.lookup f13 = some ⟨oc13, od13, .func (PySem.W.fnOf "with_main" "with_main" (defArgs s_with_main) (defBody s_with_main) (defScope s_with_main) .none kV13 dc13 pm13 an13 cd13 ct13), sl13⟩) (qc13 : PySem.W.codeIn K cd13 "with_main" = true) (qk13 : PySem.W.keepIn K (.ref f13) = true)
    {f14 : Addr} {od14 an14 : Option Addr} {sl14 : Array (Option Value)} {oc14 kV14 dc14 pm14 cd14 ct14 : Value}
    (qa14 : PySem.W.nsIn K mainGlobals "fill_function" = some (some (.ref f14))) (ql14 : K.lookup f14 = some ⟨oc14, od14, .func (PySem.W.fnOf "fill_function" "fill_function" (defArgs s_fill_function) (defBody s_fill_function) (defScope s_fill_function) .none kV14 dc14 pm14 an14 cd14 ct14), sl14⟩) (qc14 : PySem.W.codeIn K cd14 "fill_function" = true) (qk14 : PySem.W.keepIn K (.ref f14) = true)
    {f15 : Addr} {od15 an15 : Option Addr} {sl15 : Array (Option Value)} {oc15 kV15 dc15 pm15 cd15 ct15 : Value}
    (qa15 : PySem.W.nsIn K mainGlobals "fill" = some (some (.ref f15))) (ql15 : K.lookup f15 = some ⟨oc15, od15, .func (PySem.W.fnOf "fill" "fill" (defArgs s_fill) (defBody s_fill) (defScope s_fill) .none kV15 dc15 pm15 an15 cd15 ct15), sl15⟩) (qc15 : PySem.W.codeIn K cd15 "fill" = true) (qk15 : PySem.W.keepIn K (.ref f15) = true)
    {f16 : Addr} {od16 an16 : Option Addr} {sl16 : Array (Option Value)} {oc16 kV16 dc16 pm16 cd16 ct16 : Value}
    (qa16 : PySem.W.nsIn K mainGlobals "quoted" = some (some (.ref f16))) (ql16 : K.lookup f16 = some ⟨oc16, od16, .func (PySem.W.fnOf "quoted" "quoted" (defArgs s_quoted) (defBody s_quoted) (defScope s_quoted) .none kV16 dc16 pm16 an16 cd16 ct16), sl16⟩) (qc16 : PySem.W.codeIn K cd16 "quoted" = true) (qk16 : PySem.W.keepIn K (.ref f16) = true)
    {f17 : Addr} {od17 an17 : Option Addr} {sl17 : Array (Option Value)} {oc17 kV17 dc17 pm17 cd17 ct17 : Value}
    (qa17 : PySem.W.nsIn K mainGlobals "listed" = some (some (.ref f17))) (ql17 : K.lookup f17 = some ⟨oc17, od17, .func (PySem.W.fnOf "listed" "listed" (defArgs s_listed) (defBody s_listed) (defScope s_listed) .none kV17 dc17 pm17 an17 cd17 ct17), sl17⟩) (qc17 : PySem.W.codeIn K cd17 "listed" = true) (qk17 : PySem.W.keepIn K (.ref f17) = true)
    {f18 : Addr} {od18 an18 : Option Addr} {sl18 : Array (Option Value)} {oc18 kV18 dc18 pm18 cd18 ct18 : Value}
    (qa18 : PySem.W.nsIn K mainGlobals "filled_tree" = some (some (.ref f18))) (ql18 : K.lookup f18 = some ⟨oc18, od18, .func (PySem.W.fnOf "filled_tree" "filled_tree" (defArgs s_filled_tree) (defBody s_filled_tree) (defScope s_filled_tree) .none kV18 dc18 pm18 an18 cd18 ct18), sl18⟩) (qc18 : PySem.W.codeIn K cd18 "filled_tree" = true) (qk18 : PySem.W.keepIn K (.ref f18) = true)
    {f19 : Addr} {od19 an19 : Option Addr} {sl19 : Array (Option Value)} {oc19 kV19 dc19 pm19 cd19 ct19 : Value}
    (qa19 : PySem.W.nsIn K mainGlobals "know_own" = some (some (.ref f19))) (ql19 : K.lookup f19 = some ⟨oc19, od19, .func (PySem.W.fnOf "know_own" "know_own" (defArgs s_know_own) (defBody s_know_own) (defScope s_know_own) .none kV19 dc19 pm19 an19 cd19 ct19), sl19⟩) (qc19 : PySem.W.codeIn K cd19 "know_own" = true) (qk19 : PySem.W.keepIn K (.ref f19) = true)
    {f20 : Addr} {od20 an20 : Option Addr} {sl20 : Array (Option Value)} {oc20 kV20 dc20 pm20 cd20 ct20 : Value}
    (qa20 : PySem.W.nsIn K mainGlobals "_law_draws" = some (some (.ref f20))) (ql20 : K.lookup f20 = some ⟨oc20, od20, .func (PySem.W.fnOf "_law_draws" "_law_draws" (defArgs s_law_draws) (defBody s_law_draws) (defScope s_law_draws) .none kV20 dc20 pm20 an20 cd20 ct20), sl20⟩) (qc20 : PySem.W.codeIn K cd20 "_law_draws" = true) (qk20 : PySem.W.keepIn K (.ref f20) = true)
    {f21 : Addr} {od21 an21 : Option Addr} {sl21 : Array (Option Value)} {oc21 kV21 dc21 pm21 cd21 ct21 : Value}
    (qa21 : PySem.W.nsIn K mainGlobals "_law_take" = some (some (.ref f21))) (ql21 : K.lookup f21 = some ⟨oc21, od21, .func (PySem.W.fnOf "_law_take" "_law_take" (defArgs s_law_take) (defBody s_law_take) (defScope s_law_take) .none kV21 dc21 pm21 an21 cd21 ct21), sl21⟩) (qc21 : PySem.W.codeIn K cd21 "_law_take" = true) (qk21 : PySem.W.keepIn K (.ref f21) = true)
    {f22 : Addr} {od22 an22 : Option Addr} {sl22 : Array (Option Value)} {oc22 kV22 dc22 pm22 cd22 ct22 : Value}
    (qa22 : PySem.W.nsIn K mainGlobals "_law_value" = some (some (.ref f22))) (ql22 : K.lookup f22 = some ⟨oc22, od22, .func (PySem.W.fnOf "_law_value" "_law_value" (defArgs s_law_value) (defBody s_law_value) (defScope s_law_value) .none kV22 dc22 pm22 an22 cd22 ct22), sl22⟩) (qc22 : PySem.W.codeIn K cd22 "_law_value" = true) (qk22 : PySem.W.keepIn K (.ref f22) = true)
    {f23 : Addr} {od23 an23 : Option Addr} {sl23 : Array (Option Value)} {oc23 kV23 dc23 pm23 cd23 ct23 : Value}
    (qa23 : PySem.W.nsIn K mainGlobals "_law_expression" = some (some (.ref f23))) (ql23 : K.lookup f23 = some ⟨oc23, od23, .func (PySem.W.fnOf "_law_expression" "_law_expression" (defArgs s_law_expression) (defBody s_law_expression) (defScope s_law_expression) .none kV23 dc23 pm23 an23 cd23 ct23), sl23⟩) (qc23 : PySem.W.codeIn K cd23 "_law_expression" = true) (qk23 : PySem.W.keepIn K (.ref f23) = true)
    {f24 : Addr} {od24 an24 : Option Addr} {sl24 : Array (Option Value)} {oc24 kV24 dc24 pm24 cd24 ct24 : Value}
    (qa24 : PySem.W.nsIn K mainGlobals "_law_renamed" = some (some (.ref f24))) (ql24 : K.lookup f24 = some ⟨oc24, od24, .func (PySem.W.fnOf "_law_renamed" "_law_renamed" (defArgs s_law_renamed) (defBody s_law_renamed) (defScope s_law_renamed) .none kV24 dc24 pm24 an24 cd24 ct24), sl24⟩) (qc24 : PySem.W.codeIn K cd24 "_law_renamed" = true) (qk24 : PySem.W.keepIn K (.ref f24) = true)
    {f25 : Addr} {od25 an25 : Option Addr} {sl25 : Array (Option Value)} {oc25 kV25 dc25 pm25 cd25 ct25 : Value}
    (qa25 : PySem.W.nsIn K mainGlobals "_law_listed" = some (some (.ref f25))) (ql25 : K.lookup f25 = some ⟨oc25, od25, .func (PySem.W.fnOf "_law_listed" "_law_listed" (defArgs s_law_listed) (defBody s_law_listed) (defScope s_law_listed) .none kV25 dc25 pm25 an25 cd25 ct25), sl25⟩) (qc25 : PySem.W.codeIn K cd25 "_law_listed" = true) (qk25 : PySem.W.keepIn K (.ref f25) = true)
    {f26 : Addr} {od26 an26 : Option Addr} {sl26 : Array (Option Value)} {oc26 kV26 dc26 pm26 cd26 ct26 : Value}
    (qa26 : PySem.W.nsIn K mainGlobals "_law_known" = some (some (.ref f26))) (ql26 : K.lookup f26 = some ⟨oc26, od26, .func (PySem.W.fnOf "_law_known" "_law_known" (defArgs s_law_known) (defBody s_law_known) (defScope s_law_known) .none kV26 dc26 pm26 an26 cd26 ct26), sl26⟩) (qc26 : PySem.W.codeIn K cd26 "_law_known" = true) (qk26 : PySem.W.keepIn K (.ref f26) = true)
    {f27 : Addr} {od27 an27 : Option Addr} {sl27 : Array (Option Value)} {oc27 kV27 dc27 pm27 cd27 ct27 : Value}
    (qa27 : PySem.W.nsIn K mainGlobals "_law_any" = some (some (.ref f27))) (ql27 : K.lookup f27 = some ⟨oc27, od27, .func (PySem.W.fnOf "_law_any" "_law_any" (defArgs s_law_any) (defBody s_law_any) (defScope s_law_any) .none kV27 dc27 pm27 an27 cd27 ct27), sl27⟩) (qc27 : PySem.W.codeIn K cd27 "_law_any" = true) (qk27 : PySem.W.keepIn K (.ref f27) = true)
    {f28 : Addr} {od28 an28 : Option Addr} {sl28 : Array (Option Value)} {oc28 kV28 dc28 pm28 cd28 ct28 : Value}
    (qa28 : PySem.W.nsIn K mainGlobals "law" = some (some (.ref f28))) (ql28 : K.lookup f28 = some ⟨oc28, od28, .func (PySem.W.fnOf "law" "law" (defArgs s_law) (defBody s_law) (defScope s_law) .none kV28 dc28 pm28 an28 cd28 ct28), sl28⟩) (qc28 : PySem.W.codeIn K cd28 "law" = true) (qk28 : PySem.W.keepIn K (.ref f28) = true)
    (qz0 : PySem.W.nsIn K mainGlobals "isinstance" = some none)
    (qz1 : PySem.W.nsIn K mainGlobals "str" = some none)
    (qz2 : PySem.W.nsIn K mainGlobals "len" = some none)
    (qz3 : PySem.W.nsIn K mainGlobals "dict" = some none)
    (qz4 : PySem.W.nsIn K mainGlobals "int" = some none)
    (qz5 : PySem.W.nsIn K mainGlobals "enumerate" = some none)
    (qz6 : PySem.W.nsIn K mainGlobals "tuple" = some none)
    (qz7 : PySem.W.nsIn K mainGlobals "range" = some none)
    (qz8 : PySem.W.nsIn K mainGlobals "reversed" = some none)
    (qz9 : PySem.W.nsIn K mainGlobals "abs" = some none)
    {ga0 : Addr} (qg0 : PySem.W.nsIn K mainGlobals "SPECIAL_WORDS" = some (some (.ref ga0)))
    {ds0 : Array DictEntry} {dn0 : Nat} (qs0 : K.lookup ga0 = some ⟨.type "dict", none, .dict ds0 dn0, #[]⟩) (qt0 : PySem.W.KeysLit prm ds0.toList) (qu0 : ds0.toList.map OR.entS = ([(("quote" : Str), (1 : Int)), (("if" : Str), (3 : Int)), (("same" : Str), (2 : Int)), (("word" : Str), (1 : Int)), (("head" : Str), (1 : Int)), (("tail" : Str), (1 : Int)), (("join" : Str), (2 : Int))]).map some) (qv0 : (ga0 == sysModules) = false)
    {gt1 : Tok} (qg1 : PySem.W.nsIn K mainGlobals "FIGURES" = some (some (.str "0123456789" gt1)))
    {gt2 : Tok} (qg2 : PySem.W.nsIn K mainGlobals "MOST_PARAMETERS" = some (some (.int 12 gt2)))
    {ga3 : Addr} (qg3 : PySem.W.nsIn K mainGlobals "SPECIAL" = some (some (.ref ga3)))
    {ts3 : Array Value} {tn3 : Nat} (qs3 : K.lookup ga3 = some ⟨.type "tuple", none, .seq ts3 tn3, #[]⟩) (qu3 : ts3.toList.map (fun v => match v with | .str x _ => some x | _ => none) = ([("quote" : Str), ("if" : Str), ("same" : Str), ("word" : Str), ("head" : Str), ("tail" : Str), ("join" : Str)]).map some)
    {gt4 : Tok} (qg4 : PySem.W.nsIn K mainGlobals "MOST_INPUTS" = some (some (.int 8 gt4))) : {T : Top K mg // T.prm = prm} := by
  have F0 := fun_mk (st := s_is_word) ql0 qc0 qk0
  have b0 := F0.binds (ps := ["value"]) fun _ _ _ _ _ _ us hl => match us, hl with | [_], _ => rfl
  have F1 := fun_mk (st := s_has_head) ql1 qc1 qk1
  have b1 := F1.binds (ps := ["function"]) fun _ _ _ _ _ _ us hl => match us, hl with | [_], _ => rfl
  have F2 := fun_mk (st := s_counts_of) ql2 qc2 qk2
  have b2 := F2.binds (ps := ["program"]) fun _ _ _ _ _ _ us hl => match us, hl with | [_], _ => rfl
  have F3 := fun_mk (st := s_name_fits) ql3 qc3 qk3
  have b3 := F3.binds (ps := ["name", "names", "many"]) fun _ _ _ _ _ _ us hl => match us, hl with | [_, _, _], _ => rfl
  have F4 := fun_mk (st := s_parameters_fit) ql4 qc4 qk4
  have b4 := F4.binds (ps := ["parameters"]) fun _ _ _ _ _ _ us hl => match us, hl with | [_], _ => rfl
  have F5 := fun_mk (st := s_body_fits) ql5 qc5 qk5
  have b5 := F5.binds (ps := ["body", "parameters", "counts"]) fun _ _ _ _ _ _ us hl => match us, hl with | [_, _, _], _ => rfl
  have F6 := fun_mk (st := s_check_program) ql6 qc6 qk6
  have b6 := F6.binds (ps := ["value"]) fun _ _ _ _ _ _ us hl => match us, hl with | [_], _ => rfl
  have F7 := fun_mk (st := s_inputs_of) ql7 qc7 qk7
  have b7 := F7.binds (ps := ["program"]) fun _ _ _ _ _ _ us hl => match us, hl with | [_], _ => rfl
  have F8 := fun_mk (st := s_made_name) ql8 qc8 qk8
  have b8 := F8.binds (ps := ["number"]) fun _ _ _ _ _ _ us hl => match us, hl with | [_], _ => rfl
  have F9 := fun_mk (st := s_made_parameters) ql9 qc9 qk9
  have b9 := F9.binds (ps := ["many"]) fun _ _ _ _ _ _ us hl => match us, hl with | [_], _ => rfl
  have F10 := fun_mk (st := s_renamed_expression) ql10 qc10 qk10
  have b10 := F10.binds (ps := ["expression", "names"]) fun _ _ _ _ _ _ us hl => match us, hl with | [_, _], _ => rfl
  have F11 := fun_mk (st := s_renamed) ql11 qc11 qk11
  have b11 := F11.binds (ps := ["program", "start"]) fun _ _ _ _ _ _ us hl => match us, hl with | [_, _], _ => rfl
  have F12 := fun_mk (st := s_joined) ql12 qc12 qk12
  have b12 := F12.binds (ps := ["programs"]) fun _ _ _ _ _ _ us hl => match us, hl with | [_], _ => rfl
  have F13 := fun_mk (st := s_with_main) ql13 qc13 qk13
  have b13 := F13.binds (ps := ["functions", "parameters", "body"]) fun _ _ _ _ _ _ us hl => match us, hl with | [_, _, _], _ => rfl
  have F14 := fun_mk (st := s_fill_function) ql14 qc14 qk14
  have b14 := F14.binds (ps := ["main", "number", "value", "many"]) fun _ _ _ _ _ _ us hl => match us, hl with | [_, _, _, _], _ => rfl
  have F15 := fun_mk (st := s_fill) ql15 qc15 qk15
  have b15 := F15.binds (ps := ["program", "value"]) fun _ _ _ _ _ _ us hl => match us, hl with | [_, _], _ => rfl
  have F16 := fun_mk (st := s_quoted) ql16 qc16 qk16
  have b16 := F16.binds (ps := ["value"]) fun _ _ _ _ _ _ us hl => match us, hl with | [_], _ => rfl
  have F17 := fun_mk (st := s_listed) ql17 qc17 qk17
  have b17 := F17.binds (ps := ["parts"]) fun _ _ _ _ _ _ us hl => match us, hl with | [_], _ => rfl
  have F18 := fun_mk (st := s_filled_tree) ql18 qc18 qk18
  have b18 := F18.binds (ps := ["main", "number", "many"]) fun _ _ _ _ _ _ us hl => match us, hl with | [_, _, _], _ => rfl
  have F19 := fun_mk (st := s_know_own) ql19 qc19 qk19
  have b19 := F19.binds (ps := ["program"]) fun _ _ _ _ _ _ us hl => match us, hl with | [_], _ => rfl
  have F20 := fun_mk (st := s_law_draws) ql20 qc20 qk20
  have b20 := F20.binds (ps := ["_law_script", "_law_many"]) fun _ _ _ _ _ _ us hl => match us, hl with | [_, _], _ => rfl
  have F21 := fun_mk (st := s_law_take) ql21 qc21 qk21
  have b21 := F21.binds (ps := ["_law_hand", "_law_many"]) fun _ _ _ _ _ _ us hl => match us, hl with | [_, _], _ => rfl
  have F22 := fun_mk (st := s_law_value) ql22 qc22 qk22
  have b22 := F22.binds (ps := ["_law_hand", "_law_depth"]) fun _ _ _ _ _ _ us hl => match us, hl with | [_, _], _ => rfl
  have F23 := fun_mk (st := s_law_expression) ql23 qc23 qk23
  have b23 := F23.binds (ps := ["_law_hand", "_law_parameters", "_law_calls", "_law_depth"]) fun _ _ _ _ _ _ us hl => match us, hl with | [_, _, _, _], _ => rfl
  have F24 := fun_mk (st := s_law_renamed) ql24 qc24 qk24
  have b24 := F24.binds (ps := ["_law_expression_here", "_law_names"]) fun _ _ _ _ _ _ us hl => match us, hl with | [_, _], _ => rfl
  have F25 := fun_mk (st := s_law_listed) ql25 qc25 qk25
  have b25 := F25.binds (ps := ["_law_parts"]) fun _ _ _ _ _ _ us hl => match us, hl with | [_], _ => rfl
  have F26 := fun_mk (st := s_law_known) ql26 qc26 qk26
  have b26 := F26.binds (ps := ["_law_program", "_law_many"]) fun _ _ _ _ _ _ us hl => match us, hl with | [_, _], _ => rfl
  have F27 := fun_mk (st := s_law_any) ql27 qc27 qk27
  have b27 := F27.binds (ps := ["_law_hand"]) fun _ _ _ _ _ _ us hl => match us, hl with | [_], _ => rfl
  have F28 := fun_mk (st := s_law) ql28 qc28 qk28
  have b28 := F28.binds (ps := ["_law_script"]) fun _ _ _ _ _ _ us hl => match us, hl with | [_], _ => rfl
  exact ⟨{ a_is_word := _, d_is_word := _, F_is_word := F0, b_is_word := b0, m_is_word := PySem.W.mg_of X G qa0, a_has_head := _, d_has_head := _, F_has_head := F1, b_has_head := b1, m_has_head := PySem.W.mg_of X G qa1, a_counts_of := _, d_counts_of := _, F_counts_of := F2, b_counts_of := b2, m_counts_of := PySem.W.mg_of X G qa2, a_name_fits := _, d_name_fits := _, F_name_fits := F3, b_name_fits := b3, m_name_fits := PySem.W.mg_of X G qa3, a_parameters_fit := _, d_parameters_fit := _, F_parameters_fit := F4, b_parameters_fit := b4, m_parameters_fit := PySem.W.mg_of X G qa4, a_body_fits := _, d_body_fits := _, F_body_fits := F5, b_body_fits := b5, m_body_fits := PySem.W.mg_of X G qa5, a_check_program := _, d_check_program := _, F_check_program := F6, b_check_program := b6, m_check_program := PySem.W.mg_of X G qa6, a_inputs_of := _, d_inputs_of := _, F_inputs_of := F7, b_inputs_of := b7, m_inputs_of := PySem.W.mg_of X G qa7, a_made_name := _, d_made_name := _, F_made_name := F8, b_made_name := b8, m_made_name := PySem.W.mg_of X G qa8, a_made_parameters := _, d_made_parameters := _, F_made_parameters := F9, b_made_parameters := b9, m_made_parameters := PySem.W.mg_of X G qa9, a_renamed_expression := _, d_renamed_expression := _, F_renamed_expression := F10, b_renamed_expression := b10, m_renamed_expression := PySem.W.mg_of X G qa10, a_renamed := _, d_renamed := _, F_renamed := F11, b_renamed := b11, m_renamed := PySem.W.mg_of X G qa11, a_joined := _, d_joined := _, F_joined := F12, b_joined := b12, m_joined := PySem.W.mg_of X G qa12, a_with_main := _, d_with_main := _, F_with_main := F13, b_with_main := b13, m_with_main := PySem.W.mg_of X G qa13, a_fill_function := _, d_fill_function := _, F_fill_function := F14, b_fill_function := b14, m_fill_function := PySem.W.mg_of X G qa14, a_fill := _, d_fill := _, F_fill := F15, b_fill := b15, m_fill := PySem.W.mg_of X G qa15, a_quoted := _, d_quoted := _, F_quoted := F16, b_quoted := b16, m_quoted := PySem.W.mg_of X G qa16, a_listed := _, d_listed := _, F_listed := F17, b_listed := b17, m_listed := PySem.W.mg_of X G qa17, a_filled_tree := _, d_filled_tree := _, F_filled_tree := F18, b_filled_tree := b18, m_filled_tree := PySem.W.mg_of X G qa18, a_know_own := _, d_know_own := _, F_know_own := F19, b_know_own := b19, m_know_own := PySem.W.mg_of X G qa19, a_law_draws := _, d_law_draws := _, F_law_draws := F20, b_law_draws := b20, m_law_draws := PySem.W.mg_of X G qa20, a_law_take := _, d_law_take := _, F_law_take := F21, b_law_take := b21, m_law_take := PySem.W.mg_of X G qa21, a_law_value := _, d_law_value := _, F_law_value := F22, b_law_value := b22, m_law_value := PySem.W.mg_of X G qa22, a_law_expression := _, d_law_expression := _, F_law_expression := F23, b_law_expression := b23, m_law_expression := PySem.W.mg_of X G qa23, a_law_renamed := _, d_law_renamed := _, F_law_renamed := F24, b_law_renamed := b24, m_law_renamed := PySem.W.mg_of X G qa24, a_law_listed := _, d_law_listed := _, F_law_listed := F25, b_law_listed := b25, m_law_listed := PySem.W.mg_of X G qa25, a_law_known := _, d_law_known := _, F_law_known := F26, b_law_known := b26, m_law_known := PySem.W.mg_of X G qa26, a_law_any := _, d_law_any := _, F_law_any := F27, b_law_any := b27, m_law_any := PySem.W.mg_of X G qa27, a_law := _, d_law := _, F_law := F28, b_law := b28, m_law := PySem.W.mg_of X G qa28, n_isinstance := PySem.W.mg_none_of X G qz0, n_str := PySem.W.mg_none_of X G qz1, n_len := PySem.W.mg_none_of X G qz2, n_dict := PySem.W.mg_none_of X G qz3, n_int := PySem.W.mg_none_of X G qz4, n_enumerate := PySem.W.mg_none_of X G qz5, n_tuple := PySem.W.mg_none_of X G qz6, n_range := PySem.W.mg_none_of X G qz7, n_reversed := PySem.W.mg_none_of X G qz8, n_abs := PySem.W.mg_none_of X G qz9, a_SPECIAL_WORDS := ga0, c_SPECIAL_WORDS := PySem.W.mg_of X G qg0, k_SPECIAL_WORDS := ⟨⟨ds0, dn0, qs0, qt0, qu0⟩, qv0, by decide +kernel⟩, t_FIGURES := gt1, c_FIGURES := PySem.W.mg_of X G qg1, t_MOST_PARAMETERS := gt2, c_MOST_PARAMETERS := PySem.W.mg_of X G qg2, a_SPECIAL := ga3, c_SPECIAL := PySem.W.mg_of X G qg3, k_SPECIAL := ⟨⟨ts3, tn3, qs3, qu3⟩, by decide⟩, t_MOST_INPUTS := gt4, c_MOST_INPUTS := PySem.W.mg_of X G qg4, prm := prm }, rfl⟩
/-! ### _law_draws, _law_take -/
theorem pos1 : (0 : Int) < 2147483647 := by decide
theorem pos2 : (0 : Int) < 2147483629 := by decide
theorem pos3 : (0 : Int) < 1000003 := by decide
theorem scr_len {ns : List Int} (h : ns.length ≤ 63) : (ns.map V.int).length ≤ 63 := by rw [List.length_map]; exact h
def spDraws (K : PySem.W.Frag) : Sp := fun vs H Q _ => ∃ (a : Addr) (ns : List Int) (many : Nat), vs = [.ref a, .int (many : Int)] ∧ SqL K H a (ns.map V.int) ∧ ns.length ≤ 63 ∧ many ≤ 100000 ∧
  ∀ (p : Addr) (H' : Hp) (ds : List Int), Same H H' → H p = none → H' p = some (.lst (ds.map V.int)) → ds.length = many → (∀ x ∈ ds, 0 ≤ x ∧ x < 2147483629) → Q (.ref p) H'
def spTake : Sp := fun vs H Q _ => ∃ (h d : Addr) (ds : List Int) (m : Int), vs = [.ref h, .int m] ∧ Hnd H h d ds ∧ 0 < m ∧
  ∀ (r : Int) (H' : Hp), 0 ≤ r → r < m → Kp (At h) H H' → Hnd H' h d ds → Q (.int r) H'
theorem ok_take {P : Program} {w : World} {K : PySem.W.Frag} {mg : Str → Option Value} {base : Heap} (T : Top K mg) {k : Nat} : FnOk P w K mg base CX0 (k + 1) T.a_law_take T.d_law_take ["_law_hand", "_law_many"] spTake := by
  refine T.F_law_take.ok sc_law_take (fun vs H Q E h => ?_) (fun cdv A outer s H vs Q E hr h => ?_)
  · obtain ⟨h, d, ds, m, rfl, _⟩ := h
    rfl
  obtain ⟨h, d, ds, m, rfl, hh, hm, q⟩ := h
  refine ⟨_, (pss_cons (ps_set (i := 2) sc_law_take.nd rfl (Or.inl rfl) (pe_ix ix_list (pv 0) pe_int (fun _ _ => rfl)))
    (pss_cons (ps_asg (pe_op op_add (pv 2) pe_int) (pg_sub (pv 0) pe_int set_list))
    (pss_cons (ps_set (i := 3) sc_law_take.nd rfl (Or.inl rfl) (pe_ix ix_list (pv 0) pe_int (fun _ _ => rfl)))
    (pss_cons (ps_if (pt_cmpR op_ge (pv 2) (pe_callB call_len_seq rfl T.n_len bo_len (pa_cons (pv 3) pa_nil)) (nomark _)) (pss_one (ps_ret pe_int)) pss_nil)
    (pss_one (ps_ret (pe_op op_mod (pe_op op_fdiv (pe_callTy call_int1 rfl T.n_int bo_int (pa_cons (pe_ix ix_list (pv 3) (pv 2) (fun _ _ => rfl)) pa_nil)) pe_int) (pv 1)))))))), ?_⟩
  obtain ⟨⟨i, e1, i0⟩, e2, ne, nn⟩ := hh
  refine ⟨_, rfl, h, [.ref d, .int i], 1, .int i, rfl, rfl, SqL.of e1, rfl, ?_⟩
  refine ⟨_, rfl, _, _, rfl, rfl, _, rfl, h, [.ref d, .int i], 1, 1, rfl, rfl, e1, rfl, ?_⟩
  have k1 : Kp (At h) H (upd H h (.lst [.ref d, .int (i + 1)])) := Kp.refl.put (.inl rfl)
  have e3 : (upd H h (.lst [.ref d, .int (i + 1)])) d = some (.lst (ds.map V.int)) := by rw [upd_ne ne]; exact e2
  have h1 : Hnd (upd H h (.lst [.ref d, .int (i + 1)])) h d ds := ⟨⟨i + 1, upd_same, by omega⟩, e3, ne, nn⟩
  refine ⟨_, rfl, h, [.ref d, .int (i + 1)], 0, .ref d, rfl, rfl, SqL.of upd_same, rfl, ?_⟩
  refine ⟨_, rfl, _, rfl, d, ds.map V.int, rfl, .inl (SqL.of e3), _, _, rfl, rfl, _, rfl, ?_⟩
  refine ite2 (fun c => ?_) (fun c => ?_)
  · exact q 0 _ (Int.le_refl 0) hm k1 h1
  · have c' : ¬ (((ds.map V.int).length : Nat) : Int) ≤ i := of_decide_eq_false (Bool.eq_false_iff.mpr c)
    rw [List.length_map] at c'
    have hi : i.toNat < ds.length := by omega
    have q2 := atI_map i0 hi
    refine ⟨_, rfl, _, rfl, d, _, i, _, rfl, rfl, SqL.of e3, q2, .inl ⟨_, rfl, ?_⟩⟩
    refine ⟨_, _, rfl, rfl, ⟨by decide, by decide⟩, _, rfl, _, _, rfl, rfl, hm, ?_⟩
    have g0 : 0 ≤ ds[i.toNat] := nn _ (List.getElem_mem hi)
    exact q _ _ (Int.emod_nonneg _ (by omega)) (Int.emod_lt_of_pos _ hm) k1 h1

theorem ok_draws {P : Program} {w : World} {K : PySem.W.Frag} {mg : Str → Option Value} {base : Heap} (T : Top K mg) {k : Nat} : FnOk P w K mg base CX0 (k + 1) T.a_law_draws T.d_law_draws ["_law_script", "_law_many"] (spDraws K) := by
  refine T.F_law_draws.ok sc_law_draws (fun vs H Q E h => ?_) (fun cdv A outer s H vs Q E hr h => ?_)
  · obtain ⟨a, ns, many, rfl, _⟩ := h
    rfl
  obtain ⟨a, ns, many, rfl, hS, h63, hmany, q⟩ := h
  refine ⟨_, (pss_cons (ps_setLc (i := 2) (own := [("_law_cell", 5)]) (g := gName 5) (tt := tYes) (by rfl) sc_law_draws.nd rfl rfl (sw_true rfl rfl rfl (by decide +kernel)) (pi_list (pv 0)) (blkOk_by (N := ["_law_script", "_law_many", "_law_rests", "_law_draws_here", "_law_k", "_law_cell", "_law_mixed", "_law_at"]) (sc := defScope s_law_draws) (by decide +kernel)) (fun _ _ _ _ _ => pg_name (i := 5) sc_law_draws.nd rfl (Or.inl rfl)) (fun _ _ _ _ _ => pts_nil) (fun _ _ _ _ _ => (pe_callB call_abs rfl T.n_abs bo_abs (pa_cons (pe_callTy call_int1 rfl T.n_int bo_int (pa_cons (pv 5) pa_nil)) pa_nil))))
    (pss_cons (ps_set (i := 3) sc_law_draws.nd rfl (Or.inl rfl) (pe_lst pa_nil))
    (pss_cons (ps_for PassesOwn.never rfl (pi_range1 rfl T.n_range (pa_cons (pv 1) pa_nil)) (pg_name (i := 4) sc_law_draws.nd rfl (Or.inl rfl)) (pss_cons (ps_set (i := 5) sc_law_draws.nd rfl (Or.inl rfl) (pv 4))
    (C8.pss_cut (ps_if (pt_cmpR op_gt (pe_callB call_len_seq rfl T.n_len bo_len (pa_cons (pv 0) pa_nil)) pe_int (nomark _)) (pss_cons (ps_set (i := 7) sc_law_draws.nd rfl (Or.inl rfl) (pe_op op_mod (pv 4) (pe_callB call_len_seq rfl T.n_len bo_len (pa_cons (pv 0) pa_nil))))
    (pss_cons (ps_set (i := 5) sc_law_draws.nd rfl (Or.inl rfl) (pe_callTy call_int1 rfl T.n_int bo_int (pa_cons (pe_ix ix_list (pv 0) (pv 7) (fun _ _ => rfl)) pa_nil)))
    (pss_one (ps_if (PW.pt (pw_and (pt_cmpR op_ge (pv 5) (pe_op op_pow pe_int pe_int) (nomark _)) (pw_and1 (pt_cmpR op_gt (pe_ix ix_list (pv 2) (pv 7) (fun _ _ => rfl)) pe_int (nomark _))))) (pss_cons (ps_expr (pe_bm PySem.F.plainAttrs_list PySem.F.slot_list_append PySem.F.type_list_append mt_append (pv 3) (pa_cons (pe_op op_mod (pe_callTy call_int1 rfl T.n_int bo_int (pa_cons (pe_ix ix_list (pv 2) (pv 7) (fun _ _ => rfl)) pa_nil)) pe_int) pa_nil)))
    (pss_cons (ps_asg (pe_op op_fdiv (pe_callTy call_int1 rfl T.n_int bo_int (pa_cons (pe_ix ix_list (pv 2) (pv 7) (fun _ _ => rfl)) pa_nil)) pe_int) (pg_sub (pv 2) (pv 7) set_list))
    (pss_one ps_continue))) pss_nil)))) pss_nil)
    (pss_cons (ps_set (i := 6) sc_law_draws.nd rfl (Or.inl rfl) (pe_op op_mod (pe_callTy call_int1 rfl T.n_int bo_int (pa_cons (pe_op op_add (pe_op op_add (pe_op op_mul (pv 5) pe_int) (pe_op op_mul (pv 4) pe_int)) pe_int) pa_nil)) pe_int))
    (pss_cons (ps_set (i := 6) sc_law_draws.nd rfl (Or.inl rfl) (pe_op op_mod (pe_callTy call_int1 rfl T.n_int bo_int (pa_cons (pe_op op_add (pe_op op_fdiv (pe_op op_mul (pv 6) (pv 6)) pe_int) (pv 6)) pa_nil)) pe_int))
    (pss_one (ps_expr (pe_bm PySem.F.plainAttrs_list PySem.F.slot_list_append PySem.F.type_list_append mt_append (pv 3) (pa_cons (pe_op op_mod (pe_callTy call_int1 rfl T.n_int bo_int (pa_cons (pe_op op_add (pe_op op_fdiv (pe_op op_mul (pv 6) (pv 6)) pe_int) (pe_op op_mul (pv 4) pe_int)) pa_nil)) pe_int) pa_nil)))))))))
    (pss_one (ps_ret (pv 3)))))), ?_⟩
  have l63 : (ns.map V.int).length = ns.length := List.length_map _
  refine ⟨.ref a, rfl, a, rfl, ⟨_, hS⟩, fun D hD => lc_list (K := K) (a := a) (xs := ns.map V.int)
    (fun i H' => ∃ rs : List Int, Same H H' ∧ H' D = some (.lst (rs.map V.int)) ∧ rs.length = i ∧ ∀ x ∈ rs, 0 ≤ x)
    ⟨[], same_new hD, upd_same, rfl, fun _ h => nomatch h⟩ (fun i H' _ h => let ⟨_, s2, _⟩ := h; s2.seq hS) (fun i x H2 hx h => ?_) (fun H2 h => ?_)⟩
  · obtain ⟨rs, s2, e2, l2, p2⟩ := h
    rw [List.getElem?_map] at hx
    obtain ⟨n, hn, rfl⟩ := Option.map_eq_some_iff.mp hx
    have hi : i < ns.length := (List.getElem?_eq_some_iff.mp hn).1
    refine ⟨rfl, _, rfl, .inl ⟨n, rfl, n, rfl, _, e2, szl (by rw [List.length_map]; omega), rs ++ [if n < 0 then -n else n], fun b o e => ?_, ?_, by simp [l2], fun x hx => ?_⟩⟩
    · have nb : b ≠ D := ne_of_none e hD
      rw [upd_ne nb]; exact s2 b o e
    · rw [upd_same]; simp
    · rcases List.mem_append.mp hx with z | z
      · exact p2 x z
      · have := List.mem_singleton.mp z
        subst this
        split <;> omega
  obtain ⟨rs, s2, e2, l2, p2⟩ := h
  rw [l63] at l2
  refine ⟨Nat.zero_le _, fun L nL => ?_⟩
  have nDL : D ≠ L := ne_of_none e2 nL
  refine ⟨_, rfl, (many : Int), rfl, by omega, by omega, ?_⟩
  refine for_range (lo := 0) (n := (many : Int).toNat) (fun i σ H3 => ∃ (rs ds : List Int) (y4 y5 y6 y7 : Option V), σ = [some (.ref a), some (.int many), some (.ref D), some (.ref L), y4, y5, y6, y7] ∧ Same H H3 ∧
    H3 D = some (.lst (rs.map V.int)) ∧ rs.length = ns.length ∧ (∀ x ∈ rs, 0 ≤ x) ∧ H3 L = some (.lst (ds.map V.int)) ∧ ds.length = i ∧ (∀ x ∈ ds, 0 ≤ x ∧ x < 2147483629))
    ⟨rs, [], none, none, none, none, rfl, s2.trans (same_new nL), by rw [upd_ne nDL]; exact e2, l2, p2, upd_same, rfl, fun _ h => nomatch h⟩ (fun i σ H3 hi hP => ?_) (fun σ H3 hP => ?_)
  · obtain ⟨rs, ds, y4, y5, y6, y7, rfl, s3, e3, l3, p3, f3, m3, b3⟩ := hP
    have hm : ds.length ≤ 100000 := by omega
    have put1 : ∀ (z : Int) (H4 : Hp), Same H H4 → Same H (upd H4 L (.lst ((ds.map V.int) ++ [.int z]))) := fun z H4 s4 b o e => by
      rw [upd_ne (ne_of_none (s2 b o e) nL)]; exact s4 b o e
    -- cell = k
    refine ⟨.int (0 + i), rfl, ?_⟩
    -- if len(script) > 0
    refine ⟨fun σ H4 => ∃ (c : Int) (y6 y7 : Option V), σ = [some (.ref a), some (.int many), some (.ref D), some (.ref L), some (.int (0 + i)), some (.int c), y6, y7] ∧ H4 = H3, ?_, ?_⟩
    · refine ⟨_, rfl, a, _, rfl, .inl (s3.seq hS), _, _, rfl, rfl, _, rfl, ?_⟩
      refine ite2 (fun c => ?_) (fun _ => ⟨_, _, _, rfl, rfl⟩)
      have c' := of_decide_eq_true c
      rw [l63] at c'
      have hpos : (0 : Int) < ((ns.map V.int).length : Nat) := by rw [l63]; omega
      refine ⟨_, rfl, _, rfl, a, _, rfl, .inl (s3.seq hS), _, _, rfl, rfl, hpos, ?_⟩
      have b0 : 0 ≤ (0 + (i : Int)) % ((ns.map V.int).length : Nat) := Int.emod_nonneg _ (by omega)
      have b1 : (0 + (i : Int)) % ((ns.map V.int).length : Nat) < ((ns.map V.int).length : Nat) := Int.emod_lt_of_pos _ hpos
      dsimp only
      generalize (0 + (i : Int)) % ((ns.map V.int).length : Nat) = j at b0 b1 ⊢
      rw [l63] at b1
      refine ⟨_, rfl, _, rfl, a, _, j, _, rfl, rfl, s3.seq hS, atI_map b0 (by omega), .inl ⟨_, rfl, ?_⟩⟩
      refine ⟨_, rfl, _, _, rfl, rfl, ⟨by decide, by decide, by decide⟩, _, _, rfl, rfl, _, rfl, ?_⟩
      refine ite2 (fun c2 => ?_) (fun _ => iteF ⟨_, _, _, rfl, rfl⟩)
      refine ⟨_, rfl, _, rfl, D, _, j, _, rfl, rfl, SqL.of e3, atI_map b0 (by omega), _, _, rfl, rfl, _, rfl, ?_⟩
      refine ite2 (fun c3 => ?_) (fun _ => ⟨_, _, _, rfl, rfl⟩)
      -- append
      refine ⟨_, rfl, .inl ⟨rfl, _, SqL.of f3⟩, _, rfl, _, rfl, D, _, j, _, rfl, rfl, SqL.of e3, atI_map b0 (by omega), .inl ⟨_, rfl, ?_⟩⟩
      refine ⟨_, _, rfl, rfl, pos3, L, _, _, rfl, rfl, f3, szl (by rw [List.length_map]; omega), ?_⟩
      have r0 : 0 ≤ rs[j.toNat]'(by omega) := p3 _ (List.getElem_mem _)
      dsimp only
      generalize rs[j.toNat]'(by omega) = rj at r0 ⊢
      -- rests[at] = ..
      have e3' : (upd H3 L (.lst ((ds.map V.int) ++ [.int (rj % 1000003)]))) D = some (.lst (rs.map V.int)) := by rw [upd_ne nDL]; exact e3
      refine ⟨_, rfl, _, rfl, D, _, j, _, rfl, rfl, SqL.of e3', atI_map b0 (by omega), .inl ⟨_, rfl, ?_⟩⟩
      refine ⟨_, _, rfl, rfl, ⟨by decide, by decide⟩, _, rfl, _, rfl, D, _, j, _, rfl, rfl, e3', ixN_of b0 (by rw [List.length_map]; omega), ?_⟩
      have r0' : 0 ≤ rs[j.toNat]'(by omega) := p3 _ (List.getElem_mem _)
      dsimp only
      generalize rs[j.toNat]'(by omega) = rj' at r0' ⊢
      refine ⟨rs.set j.toNat (rj' / 1000003), ds ++ [rj % 1000003], _, _, _, _, rfl, fun b o e => ?_, ?_, by simp [l3], fun x hx => ?_, ?_, by simp [m3], fun x hx => ?_⟩
      · rw [upd_ne (ne_of_none e hD)]
        exact put1 _ _ s3 b o e
      · rw [upd_same, List.map_set]
      · rcases List.mem_or_eq_of_mem_set hx with z | z
        · exact p3 x z
        · subst z; exact Int.ediv_nonneg r0' (by decide)
      · rw [upd_ne nDL.symm, upd_same]; simp
      · rcases List.mem_append.mp hx with z | z
        · exact b3 x z
        · have := List.mem_singleton.mp z
          subst this
          have := Int.emod_nonneg rj (show (1000003 : Int) ≠ 0 by decide)
          have := Int.emod_lt_of_pos rj (show (0 : Int) < 1000003 by decide)
          omega
    · rintro σ H4 ⟨c, y6, y7, rfl, rfl⟩
      refine ⟨_, rfl, _, _, rfl, rfl, .inr ⟨by decide, by decide⟩, _, rfl, _, _, rfl, rfl, .inr ⟨by decide, by decide⟩, _, _, rfl, rfl, _, _, rfl, rfl, .inl ⟨_, rfl, _, _, rfl, rfl, pos1, ?_⟩⟩
      have g0 := Int.emod_nonneg (c * 48271 + (0 + (i : Int)) * 69621 + 11) (show (2147483647 : Int) ≠ 0 by decide)
      have g1 := Int.emod_lt_of_pos (c * 48271 + (0 + (i : Int)) * 69621 + 11) (show (0 : Int) < 2147483647 by decide)
      dsimp only
      generalize (c * 48271 + (0 + (i : Int)) * 69621 + 11) % 2147483647 = m1 at g0 g1 ⊢
      refine ⟨_, rfl, _, rfl, _, _, rfl, rfl, .inl ⟨by omega, by omega⟩, _, _, rfl, rfl, ⟨by decide, by decide⟩, _, rfl, _, _, rfl, rfl, .inl ⟨_, rfl, _, _, rfl, rfl, pos2, ?_⟩⟩
      have g0 := Int.emod_nonneg (m1 * m1 / 4096 + m1) (show (2147483629 : Int) ≠ 0 by decide)
      have g1 := Int.emod_lt_of_pos (m1 * m1 / 4096 + m1) (show (0 : Int) < 2147483629 by decide)
      dsimp only
      generalize (m1 * m1 / 4096 + m1) % 2147483629 = m2 at g0 g1 ⊢
      refine ⟨_, rfl, .inl ⟨rfl, _, SqL.of f3⟩, _, rfl, _, rfl, _, _, rfl, rfl, .inl ⟨by omega, by omega⟩, _, _, rfl, rfl, ⟨by decide, by decide⟩, _, rfl, _, _, rfl, rfl, .inr ⟨by decide, by decide⟩, _, _, rfl, rfl, .inl ⟨_, rfl, _, _, rfl, rfl, pos2, ?_⟩⟩
      have g0 := Int.emod_nonneg (m2 * m2 / 4096 + (0 + (i : Int)) * 7919) (show (2147483629 : Int) ≠ 0 by decide)
      have g1 := Int.emod_lt_of_pos (m2 * m2 / 4096 + (0 + (i : Int)) * 7919) (show (0 : Int) < 2147483629 by decide)
      dsimp only
      generalize (m2 * m2 / 4096 + (0 + (i : Int)) * 7919) % 2147483629 = m3' at g0 g1 ⊢
      refine ⟨L, _, _, rfl, rfl, f3, szl (by rw [List.length_map]; omega), ?_⟩
      refine ⟨rs, ds ++ [m3'], _, _, _, _, rfl, put1 _ _ s3, by rw [upd_ne nDL]; exact e3, l3, p3, by rw [upd_same]; simp, by simp [m3], fun x hx => ?_⟩
      rcases List.mem_append.mp hx with z | z
      · exact b3 x z
      · have := List.mem_singleton.mp z
        subst this
        exact ⟨g0, g1⟩
  · obtain ⟨rs, ds, y4, y5, y6, y7, rfl, s3, e3, l3, p3, f3, m3, b3⟩ := hP
    exact ⟨_, rfl, q L H3 ds s3 (s2.free nL) f3 (by omega) b3⟩

/-! ### programs.py: what is a good program -/
def isW : Tr → Bool
  | .w _ => true
  | .l _ => false
def hasHead : Tr → Bool
  | .w _ => false
  | .l [a, b, _] => isW a && !isW b
  | .l _ => false
def spW : List (Str × Int) := [("quote", 1), ("if", 3), ("same", 2), ("word", 1), ("head", 1), ("tail", 1), ("join", 2)]
def addC (acc : List (Str × Int)) : Tr → List (Str × Int)
  | .l [.w n, .l ps, _] => if (OR.lkI acc n).isSome then acc else acc ++ [(n, (ps.length : Int))]
  | _ => acc
def cnt (prog : List Tr) : List (Str × Int) := prog.foldl addC spW
theorem isi_w {K : PySem.W.Frag} {H : Hp} {t : Tr} {v : V} (h : IsT K H t v) : ∃ a, TyX K H v (.type a) ∧ kitB a "str" = some (isW t) := by
  cases t with
  | w s => rw [isT_w.mp h]; exact ⟨"str", tyX_str, k_ss⟩
  | l ts =>
    obtain ⟨a, us, rfl, ha, _⟩ := isT_l.mp h
    exact ⟨"tuple", tyX_tup ha, k_ts⟩
def spIsW (K : PySem.W.Frag) : Sp := fun vs H Q _ => ∃ (t : Tr) (v : V), vs = [v] ∧ IsT K H t v ∧ Q (.bl (isW t)) H
theorem ok_is_word {P : Program} {w : World} {K : PySem.W.Frag} {mg : Str → Option Value} {base : Heap} (T : Top K mg) {k : Nat} : FnOk P w K mg base CX0 (k + 1) T.a_is_word T.d_is_word ["value"] (spIsW K) := by
  refine T.F_is_word.ok sc_is_word (fun vs H Q E h => ?_) (fun cdv A outer s H vs Q E hr h => ?_)
  · obtain ⟨t, v, rfl, _⟩ := h
    rfl
  obtain ⟨t, v, rfl, hv, q⟩ := h
  refine ⟨_, (pss_one (ps_ret (pe_callB call_isi rfl T.n_isinstance bo_isinstance (pa_cons (pv 0) (pa_cons (pe_bltn (v := .ty "str") rfl T.n_str bo_str rfl) pa_nil))))), ?_⟩
  obtain ⟨a, ty, kt⟩ := isi_w hv
  exact ⟨_, rfl, _, _, _, _, isW t, rfl, .ty "str", ty, kty kt, q⟩
def spHasHead (K : PySem.W.Frag) : Sp := fun vs H Q _ => ∃ (t : Tr) (v : V), vs = [v] ∧ IsT K H t v ∧ Q (.bl (hasHead t)) H
theorem ok_has_head {P : Program} {w : World} {K : PySem.W.Frag} {mg : Str → Option Value} {base : Heap} (T : Top K mg) {k : Nat} (G_is_word : FnOk P w K mg base CX0 1 T.a_is_word T.d_is_word ["value"] (spIsW K)) : FnOk P w K mg base CX0 (k + 2) T.a_has_head T.d_has_head ["function"] (spHasHead K) := by
  refine T.F_has_head.ok sc_has_head (fun vs H Q E h => ?_) (fun cdv A outer s H vs Q E hr h => ?_)
  · obtain ⟨t, v, rfl, _⟩ := h
    rfl
  obtain ⟨t, v, rfl, hv, q⟩ := h
  refine ⟨_, (pss_one (ps_ret (pe_and (pe_not (pe_call G_is_word (hr.mono (by omega)) rfl T.m_is_word T.F_is_word.kp T.b_is_word .nil pass0 (pa_cons (pv 0) pa_nil))) (pe_and (pe_cmpR op_eq (pe_callB call_len_seq rfl T.n_len bo_len (pa_cons (pv 0) pa_nil)) pe_int (nomark _)) (pe_and (pe_call G_is_word (hr.mono (by omega)) rfl T.m_is_word T.F_is_word.kp T.b_is_word .nil pass0 (pa_cons (pe_ix ix_tup (pv 0) pe_int (fun _ _ => rfl)) pa_nil)) (pe_one (pe_not (pe_call G_is_word (hr.mono (by omega)) rfl T.m_is_word T.F_is_word.kp T.b_is_word .nil pass0 (pa_cons (pe_ix ix_tup (pv 0) pe_int (fun _ _ => rfl)) pa_nil))))))))), ?_⟩
  refine ⟨_, rfl, t, v, rfl, hv, _, rfl, _, rfl, ?_⟩
  cases t with
  | w s => exact q
  | l ts =>
    obtain ⟨a, us, rfl, ha, hus⟩ := isT_l.mp hv
    have hl := hus.length
    refine ⟨_, rfl, a, us, rfl, .inr ha, rfl, _, rfl, ?_⟩
    by_cases h3 : ts.length = 3
    · rw [decide_eq_true (show V.int ((us.length : Nat) : Int) = V.int 3 by rw [hl, h3]; rfl)]
      obtain ⟨x, y, z, rfl⟩ : ∃ x y z, ts = [x, y, z] := by
        match ts, h3 with
        | [x, y, z], _ => exact ⟨x, y, z, rfl⟩
      obtain ⟨u, r1, rfl, i1, hr1⟩ := isTs_cons.mp hus
      obtain ⟨u2, r2, rfl, i2, hr2⟩ := isTs_cons.mp hr1
      refine ⟨_, rfl, a, _, 0, u, rfl, rfl, ha, atI_of (by decide) rfl, x, u, rfl, i1, _, rfl, ?_⟩
      cases x with
      | l _ => exact q
      | w s => exact ⟨_, rfl, a, _, 1, u2, rfl, rfl, ha, atI_of (by decide) rfl, y, u2, rfl, i2, _, rfl, q⟩
    · rw [decide_eq_false (show ¬ V.int ((us.length : Nat) : Int) = V.int 3 by rw [hl]; intro e; injection e with e; omega)]
      have e : hasHead (.l ts) = false := by
        match ts, h3 with
        | [], _ => rfl
        | [_], _ => rfl
        | [_, _], _ => rfl
        | [_, _, _], h => exact absurd rfl h
        | _ :: _ :: _ :: _ :: _, _ => rfl
      rw [e] at q
      exact q

/-! ### counts_of, name_fits, parameters_fit, body_fits -/
abbrev dKV := OR.kvV
theorem valV_kv (n : Str) : ∀ kvs : List (Str × Int), valV (OR.kvV kvs) (.inr n) = (OR.lkI kvs n).map V.int
  | [] => rfl
  | (x, i) :: r => by
    by_cases h : x = n
    · subst h
      rw [show OR.kvV ((x, i) :: r) = (.inr x, .int i) :: OR.kvV r from rfl, valV_pos rfl]
      simp [OR.lkI]
    · rw [show OR.kvV ((x, i) :: r) = (.inr x, .int i) :: OR.kvV r from rfl, valV_neg (by intro e; exact h (Sum.inr.inj e)), valV_kv n r]
      unfold OR.lkI
      rw [List.find?_cons, decide_eq_false h]
theorem kv_app (a b : List (Str × Int)) : OR.kvV (a ++ b) = OR.kvV a ++ OR.kvV b := by simp [OR.kvV]
theorem addC_len (acc : List (Str × Int)) (t : Tr) : (addC acc t).length ≤ acc.length + 1 := by
  unfold addC
  split
  · split
    · omega
    · simp
  · omega
theorem foldC_len : ∀ (ts : List Tr) (acc : List (Str × Int)), (ts.foldl addC acc).length ≤ acc.length + ts.length
  | [], acc => by simp
  | t :: ts, acc => by
    have := foldC_len ts (addC acc t)
    have := addC_len acc t
    simp only [List.foldl_cons, List.length_cons]; omega
theorem head_shape : ∀ {t : Tr}, hasHead t = true → ∃ n ps b, t = .l [.w n, .l ps, b]
  | .w _, h => by cases h
  | .l [], h => by cases h
  | .l [_], h => by cases h
  | .l [_, _], h => by cases h
  | .l [.w n, .l ps, b], _ => ⟨n, ps, b, rfl⟩
  | .l [.l _, _, _], h => by cases h
  | .l [.w _, .w _, _], h => by cases h
  | .l (_ :: _ :: _ :: _ :: _), h => by cases h
def spCounts (K : PySem.W.Frag) : Sp := fun vs H Q _ => ∃ (ts : List Tr) (v : V), vs = [v] ∧ IsT K H (.l ts) v ∧ ts.length ≤ 100000 ∧ ∀ (p : Addr) (H' : Hp), Same H H' → H p = none → H' p = some (.dK (OR.kvV (cnt ts))) → Q (.ref p) H'
theorem ok_counts_of {P : Program} {w : World} {K : PySem.W.Frag} {mg : Str → Option Value} {base : Heap} (T : Top K mg) (hw : T.prm = w.params) {k : Nat} (G_has_head : FnOk P w K mg base CX0 2 T.a_has_head T.d_has_head ["function"] (spHasHead K)) : FnOk P w K mg base CX0 (k + 3) T.a_counts_of T.d_counts_of ["program"] (spCounts K) := by
  refine T.F_counts_of.ok sc_counts_of (fun vs H Q E h => ?_) (fun cdv A outer s H vs Q E hr h => ?_)
  · obtain ⟨t, v, rfl, _⟩ := h
    rfl
  obtain ⟨ts, v, rfl, hv, hz, q⟩ := h
  have D : OR.KD K w.params T.a_SPECIAL_WORDS spW := hw ▸ T.k_SPECIAL_WORDS
  refine ⟨_, (pss_cons (ps_set (i := 1) sc_counts_of.nd rfl (Or.inl rfl) (pe_callTy OR.call_dictK rfl T.n_dict bo_dict (pa_cons (pe_glob (v := .ref T.a_SPECIAL_WORDS) rfl T.c_SPECIAL_WORDS rfl) pa_nil)))
    (pss_cons (ps_for PassesOwn.never rfl (pi_tup (pv 0)) (pg_name (i := 2) sc_counts_of.nd rfl (Or.inl rfl)) (pss_one (ps_if (PW.pt (pw_and (pt_val (pe_call G_has_head (hr.mono (by omega)) rfl T.m_has_head T.F_has_head.kp T.b_has_head .nil pass0 (pa_cons (pv 2) pa_nil))) (pw_and1 (pt_cmp (pc_dnotin (hu_of hr) (pe_ix ix_tup (pv 2) pe_int (fun _ _ => rfl)) (pv 1)))))) (pss_one (ps_dput (hu_of hr) (pv 1) (pe_ix ix_tup (pv 2) pe_int (fun _ _ => rfl)) (pe_callB call_len_seq rfl T.n_len bo_len (pa_cons (pe_ix ix_tup (pv 2) pe_int (fun _ _ => rfl)) pa_nil)) rfl)) pss_nil)))
    (pss_one (ps_ret (pv 1))))), ?_⟩
  refine ⟨T.a_SPECIAL_WORDS, spW, rfl, D, by decide, fun p np => ?_⟩
  obtain ⟨a, us, rfl, ha, hus⟩ := isT_l.mp hv
  have hl := hus.length
  have s0 := same_new (o := .dK (OR.kvV spW)) np
  refine ⟨_, rfl, a, rfl, ⟨_, TK.same s0 _ _ ha⟩, ?_⟩
  refine for_tup (K := K) (a := a) (xs := us) (fun i σ H' => ∃ y : Option V, σ = [some (.ref a), some (.ref p), y] ∧ Same H H' ∧ H' p = some (.dK (OR.kvV (cnt (ts.take i)))))
    ⟨_, rfl, s0, upd_same⟩ (fun i σ H' _ h => let ⟨_, _, z, _⟩ := h; TK.same z _ _ ha) (fun i x σ H1 hx h => ?_) (fun σ H1 h => ?_)
  · obtain ⟨y, rfl, s1, ep⟩ := h
    obtain ⟨t, gt, ht⟩ := hus.tree hx
    have ht1 := ht.tk (TK.same (K := K) s1)
    have ec : cnt (ts.take (i + 1)) = addC (cnt (ts.take i)) t := by
      unfold cnt
      rw [List.take_add_one, gt, List.foldl_append]; rfl
    have lc : (cnt (ts.take i)).length ≤ 7 + ts.length := by
      have := foldC_len (ts.take i) spW
      have e7 : spW.length = 7 := rfl
      rw [List.length_take] at this
      unfold cnt; omega
    have stay : addC (cnt (ts.take i)) t = cnt (ts.take i) → ∃ y : Option V, [some (V.ref a), some (.ref p), some x] = [some (V.ref a), some (.ref p), y] ∧ Same H H1 ∧ H1 p = some (.dK (OR.kvV (cnt (ts.take (i + 1))))) := fun e => ⟨_, rfl, s1, by rw [ec, e]; exact ep⟩
    refine ⟨_, rfl, t, x, rfl, ht1, _, rfl, ?_⟩
    cases hb : hasHead t with
    | false =>
      refine stay ?_
      unfold addC
      split
      · exact absurd hb (by simp [hasHead, isW])
      · rfl
    | true =>
      obtain ⟨n, ps, b, rfl⟩ := head_shape hb
      obtain ⟨a2, us2, rfl, ha2, hus2⟩ := isT_l.mp ht1
      obtain ⟨u, r1, rfl, i1, hr1⟩ := isTs_cons.mp hus2
      obtain ⟨u2, r2, rfl, i2, hr2⟩ := isTs_cons.mp hr1
      obtain rfl := isT_w.mp i1
      obtain ⟨a3, us3, rfl, ha3, hus3⟩ := isT_l.mp i2
      have l3 := hus3.length
      refine ⟨_, rfl, a2, _, 0, _, rfl, rfl, ha2, atI_of (by decide) rfl, _, rfl, p, _, rfl, DGet.k (k := .inr n) ep, ?_⟩
      rw [valV_kv]
      refine ⟨_, rfl, ?_⟩
      cases hn : OR.lkI (cnt (ts.take i)) n with
      | some j =>
        refine stay ?_
        simp [addC, hn]
      | none =>
        refine ⟨_, rfl, a2, _, 1, _, rfl, rfl, ha2, atI_of (by decide) rfl, a3, us3, rfl, .inr ha3, _, rfl, _, rfl, a2, _, 0, _, rfl, rfl, ha2, atI_of (by decide) rfl, p, _, rfl, DPut.k (k := .inr n) ep (by simp only [OR.kvV, List.length_map]; exact szl (by omega)), ?_⟩
        refine ⟨_, rfl, fun b o e => by rw [upd_ne (ne_of_none e np)]; exact s1 b o e, ?_⟩
        rw [upd_same, putK_new _ (by rw [valV_kv, hn]; rfl), ec]
        simp only [addC, hn]
        rw [l3]
        simp [OR.kvV]
  · obtain ⟨y, rfl, s1, ep⟩ := h
    rw [hl, List.take_length] at ep
    exact ⟨_, rfl, q p H1 s1 np ep⟩
/-! name_fits -/
def figD : Str := "0123456789"
def figs (n : Str) : Str := cutS n (some 1) none
def isNum (n : Str) : Bool := decide (n.cps.toList.head? = some 102) && (!decide (figs n = "") && decide (Txt.stripChars (figs n) figD = ""))
def nameFits (n : Str) (there : Bool) (many : Int) : Bool :=
  !(OR.lkI spW n).isSome && (!there && (if isNum n then ((decide (figs n = "0") || decide ((figs n).cps.toList.head? ≠ some 48)) && decide ((PySem.intText? (figs n)).getD 0 < many)) else true))
structure NameOk (n : Str) : Prop where
  ne : n.cps.toList ≠ []
  len : n.length ≤ 600
  num : isNum n = true → ∃ j, PySem.intText? (figs n) = some j
theorem f_cps : ("f" : Str).cps.toList = [102] := by decide +kernel
theorem n0_cps : ("0" : Str).cps.toList = [48] := by decide +kernel
theorem sl1_cps {z : Str} : (figs z).cps.toList = z.cps.toList.drop 1 := by
  unfold figs cutS
  have h1 : HT.sIx z.length 0 (some 1) = min 1 z.length := HT.sIx_nat z.length 0 1
  rw [h1, HT.sIx_none]
  show (z.cps.toList.drop (min 1 z.length)).take _ = _
  have e : z.length = z.cps.toList.length := (slen z).symm
  rw [List.take_of_length_le (by rw [List.length_drop]; omega)]
  by_cases h : 1 ≤ z.length
  · rw [Nat.min_eq_left h]
  · rw [List.drop_of_length_le (by omega), List.drop_of_length_le (by omega)]
def spName (K : PySem.W.Frag) : Sp := fun vs H Q _ => ∃ (n : Str) (p : Addr) (kvs : List (Key × V)) (many : Int), vs = [.str n, .ref p, .int many] ∧ H p = some (.dK kvs) ∧ NameOk n ∧ Q (.bl (nameFits n (valV kvs (.inr n)).isSome many)) H
theorem ok_name_fits {P : Program} {w : World} {K : PySem.W.Frag} {mg : Str → Option Value} {base : Heap} (T : Top K mg) (hw : T.prm = w.params) {k : Nat} : FnOk P w K mg base CX0 (k + 1) T.a_name_fits T.d_name_fits ["name", "names", "many"] (spName K) := by
  refine T.F_name_fits.ok sc_name_fits (fun vs H Q E h => ?_) (fun cdv A outer s H vs Q E hr h => ?_)
  · obtain ⟨n, p, kvs, many, rfl, _⟩ := h
    rfl
  obtain ⟨n, p, kvs, many, rfl, ep, ok, q⟩ := h
  have D : OR.KD K w.params T.a_SPECIAL_WORDS spW := hw ▸ T.k_SPECIAL_WORDS
  refine ⟨_, (pss_cons (ps_if (PW.pt (pw_or (pt_cmpR OR.op_inK (pv 0) (pe_glob (v := .ref T.a_SPECIAL_WORDS) rfl T.c_SPECIAL_WORDS rfl) rfl) (pw_or1 (pt_cmp (pc_din (hu_of hr) (pv 0) (pv 1)))))) (pss_one (ps_ret pe_bl)) pss_nil)
    (pss_cons (ps_set (i := 3) sc_name_fits.nd rfl (Or.inl rfl) (pe_slice sl_str (pv 0) (po_some pe_int) po_none))
    (pss_cons (ps_if (PW.pt (pw_or (pt_cmpR op_ne (pe_ix ix_str (pv 0) pe_int (fun _ _ => rfl)) pe_str (nomark _)) (pw_or (pt_cmpR op_eq (pv 3) pe_str (nomark _)) (pw_or1 (pt_cmpR op_ne (pe_bm PySem.F.plainAttrs_str PySem.F.slot_str_strip PySem.F.type_str_strip mt_stripChars (pv 3) (pa_cons (pe_glob (v := .str "0123456789") rfl T.c_FIGURES ⟨_, rfl⟩) pa_nil)) pe_str (nomark _)))))) (pss_one (ps_ret pe_bl)) pss_nil)
    (pss_one (ps_ret (pe_and (pe_or (pe_cmpR op_eq (pv 3) pe_str (nomark _)) (pe_one (pe_cmpR op_ne (pe_ix ix_str (pv 3) pe_int (fun _ _ => rfl)) pe_str (nomark _)))) (pe_one (pe_cmpR op_lt (pe_callTy call_int_str rfl T.n_int bo_int (pa_cons (pv 3) pa_nil)) (pv 2) (nomark _))))))))), ?_⟩
  refine ⟨_, rfl, T.a_SPECIAL_WORDS, spW, n, rfl, rfl, D, _, rfl, ?_⟩
  cases h1 : (OR.lkI spW n).isSome with
  | true =>
    have e : nameFits n (valV kvs (.inr n)).isSome many = false := by unfold nameFits; rw [h1]; rfl
    rw [e] at q
    exact q
  | false =>
  refine ⟨_, rfl, _, rfl, p, _, rfl, DGet.k (k := .inr n) ep, ?_⟩
  cases h2 : (valV kvs (.inr n)).isSome with
  | true =>
    have e : nameFits n (valV kvs (.inr n)).isSome many = false := by unfold nameFits; rw [h1, h2]; rfl
    rw [h2] at e
    rw [h2, e] at q
    exact ⟨_, rfl, q⟩
  | false =>
  rw [h2] at q
  have hz := ok.len
  refine ⟨_, rfl, ?_⟩
  refine ⟨_, rfl, _, rfl, n, rfl, sz (by omega), ?_⟩
  obtain ⟨c, r, ec⟩ : ∃ c r, n.cps.toList = c :: r := by
    cases h : n.cps.toList with
    | nil => exact absurd h ok.ne
    | cons c r => exact ⟨c, r, rfl⟩
  have ef : (figs n).cps.toList = r := by
    have : (figs n).cps.toList = n.cps.toList.drop 1 := sl1_cps
    rw [this, ec]; rfl
  have lf : (figs n).length ≤ 600 := by
    rw [← slen, ef]
    have := slen n
    rw [ec, List.length_cons] at this
    omega
  dsimp only
  refine if_b (!isNum n) (fun Qb qb => ?_) (fun cb => ?_) (fun cb => ?_)
  · refine ⟨_, rfl, n, 0, c, rfl, rfl, sz (by omega), atI_of (by decide) (by rw [ec]; rfl), rfl, _, rfl, ?_⟩
    rw [one_eq f_cps]
    by_cases hc : c = 102
    · rw [decide_eq_true hc]
      refine ⟨_, rfl, rfl, _, rfl, ?_⟩
      by_cases h0 : figs n = ""
      · have e : isNum n = false := by unfold isNum; rw [decide_eq_true h0]; simp
        rw [e] at qb
        rw [show cutS n (some 1) none = figs n from rfl, h0]
        exact qb
      · rw [decide_eq_false (show ¬ V.str (cutS n (some 1) none) = V.str "" by intro e; injection e with e; exact h0 e)]
        refine ⟨_, rfl, rfl, _, _, rfl, rfl, sz (by show (figs n).length ≤ _; omega), rfl, _, rfl, ?_⟩
        have e : isNum n = decide (V.str (Txt.stripChars (cutS n (some 1) none) figD) = V.str "") := by
          unfold isNum
          rw [ec, decide_eq_false h0, decide_eq_true (by rw [hc]; rfl), Bool.not_false, Bool.true_and, Bool.true_and]
          exact decide_eq_decide.mpr (by simp [figs])
        rw [e] at qb
        exact qb
    · have e : isNum n = false := by unfold isNum; rw [ec, decide_eq_false (by simpa using hc)]; rfl
      rw [decide_eq_false hc]
      rw [e] at qb
      exact qb
  · have e : nameFits n false many = true := by
      unfold nameFits
      have : isNum n = false := by cases h : isNum n with
        | false => rfl
        | true => rw [h] at cb; cases cb
      rw [h1, this]; rfl
    rw [e] at q
    exact q
  · have hn : isNum n = true := by cases h : isNum n with
      | false => rw [h] at cb; cases cb
      | true => rfl
    obtain ⟨j, hj⟩ := ok.num hn
    have eN : nameFits n false many = ((decide (figs n = "0") || decide ((figs n).cps.toList.head? ≠ some 48)) && decide (j < many)) := by
      unfold nameFits
      rw [h1, hn, hj]; simp
    rw [eN] at q
    have h0 : figs n ≠ "" := by
      intro h; unfold isNum at hn; rw [decide_eq_true h] at hn; simp at hn
    obtain ⟨d, r', er⟩ : ∃ d r', r = d :: r' := by
      cases r with
      | nil => exact absurd (str_ext (by rw [ef]; decide +kernel)) h0
      | cons d r' => exact ⟨d, r', rfl⟩
    have hd : (figs n).cps.toList.head? = some d := by rw [ef, er]; rfl
    have hj2 : PySem.intText? (cutS n (some 1) none) = some j := hj
    have fin : ∀ (b : Bool), (decide (figs n = "0") || decide ((figs n).cps.toList.head? ≠ some 48)) = b → Q (.bl (b && decide (j < many))) H := fun b e => by rw [e] at q; exact q
    -- (figures == "0" or figures[0] != "0") and int(figures) < many
    have tail : ∀ b : Bool, b = true → (decide (figs n = "0") || decide ((figs n).cps.toList.head? ≠ some 48)) = b → Q (.bl (decide (j < many))) H := fun b e e2 => by
      have := fin b e2
      rw [e, Bool.true_and] at this
      exact this
    refine ⟨_, rfl, rfl, ?_⟩
    by_cases z : figs n = "0"
    · rw [decide_eq_true (show V.str (cutS n (some 1) none) = V.str "0" by rw [show cutS n (some 1) none = figs n from rfl, z])]
      refine ⟨_, rfl, _, rfl, ?_⟩
      refine ⟨_, rfl, _, j, rfl, hj2, by show (figs n).length ≤ _; omega, _, rfl, _, _, rfl, rfl, ?_⟩
      exact tail true rfl (by rw [decide_eq_true z]; rfl)
    · rw [decide_eq_false (show ¬ V.str (cutS n (some 1) none) = V.str "0" by intro e; injection e with e; exact z e)]
      refine ⟨_, rfl, ?_⟩
      refine ⟨_, rfl, _, 0, d, rfl, rfl, sz (by show (figs n).length ≤ _; omega), atI_of (by decide) (by show (figs n).cps.toList[_]? = _; rw [ef, er]; rfl), rfl, _, rfl, ?_⟩
      rw [one_eq n0_cps]
      by_cases d48 : d = 48
      · rw [decide_eq_true d48]
        have := fin false (by rw [decide_eq_false z, hd, d48]; rfl)
        exact this
      · rw [decide_eq_false d48]
        refine ⟨_, rfl, _, j, rfl, hj2, by show (figs n).length ≤ _; omega, _, rfl, _, _, rfl, rfl, ?_⟩
        exact tail true rfl (by rw [decide_eq_false z, hd, Bool.false_or, decide_eq_true (by simpa using d48)])

/-! ### parameters_fit, body_fits -/
theorem isTs_words {K : PySem.W.Frag} {H : Hp} : ∀ {ss : List Str} {vs : List V}, IsTs K H (ss.map .w) vs → vs = ss.map V.str
  | [], vs, h => isTs_nil.mp h
  | s :: ss, vs, h => by
    obtain ⟨v, r, rfl, h1, h2⟩ := isTs_cons.mp h
    rw [isT_w.mp h1, isTs_words h2]; rfl
theorem flat_strs (ss : List Str) : (ss.map V.str).all flatV = true := by
  rw [List.all_eq_true]; intro v hv
  obtain ⟨s, _, rfl⟩ := List.mem_map.mp hv
  rfl
theorem inV_strs (s : Str) (ss : List Str) : inV (.str s) (ss.map V.str) = decide (s ∈ ss) := by
  unfold inV
  rw [Bool.eq_iff_iff]
  simp [List.any_eq_true, eqV]
def pfs (seen : List Str) : List Tr → Bool
  | [] => true
  | .l _ :: _ => false
  | .w s :: r => !(OR.lkI spW s).isSome && (!decide (s ∈ seen) && pfs (seen ++ [s]) r)
def parsFit (ps : List Tr) : Bool := decide (ps.length ≤ 12) && pfs [] ps
def spPars (K : PySem.W.Frag) : Sp := fun vs H Q _ => ∃ (ps : List Tr) (v : V), vs = [v] ∧ IsT K H (.l ps) v ∧ ∀ H', Same H H' → Q (.bl (parsFit ps)) H'
theorem ok_parameters_fit {P : Program} {w : World} {K : PySem.W.Frag} {mg : Str → Option Value} {base : Heap} (T : Top K mg) (hw : T.prm = w.params) {k : Nat} (G_is_word : FnOk P w K mg base CX0 1 T.a_is_word T.d_is_word ["value"] (spIsW K)) : FnOk P w K mg base CX0 (k + 2) T.a_parameters_fit T.d_parameters_fit ["parameters"] (spPars K) := by
  refine T.F_parameters_fit.ok sc_parameters_fit (fun vs H Q E h => ?_) (fun cdv A outer s H vs Q E hr h => ?_)
  · obtain ⟨t, v, rfl, _⟩ := h
    rfl
  obtain ⟨ps, v, rfl, hv, q⟩ := h
  have D : OR.KD K w.params T.a_SPECIAL_WORDS spW := hw ▸ T.k_SPECIAL_WORDS
  obtain ⟨a, us, rfl, ha, hus⟩ := isT_l.mp hv
  have hl := hus.length
  refine ⟨_, (pss_cons (ps_if (pt_cmpR op_gt (pe_callB call_len_seq rfl T.n_len bo_len (pa_cons (pv 0) pa_nil)) (pe_glob (v := .int 12) rfl T.c_MOST_PARAMETERS ⟨_, rfl⟩) (nomark _)) (pss_one (ps_ret pe_bl)) pss_nil)
    (pss_cons (ps_for PassesOwn.never rfl (OR.pi_enT rfl T.n_enumerate (pa_cons (pv 0) pa_nil)) (pg_tup (by rfl) (pgs_cons (pg_name (i := 1) sc_parameters_fit.nd rfl (Or.inl rfl)) (pgs_cons (pg_name (i := 2) sc_parameters_fit.nd rfl (Or.inl rfl)) pgs_nil))) (pss_one (ps_if (PW.pt (pw_or (pt_not (pt_val (pe_call G_is_word (hr.mono (by omega)) rfl T.m_is_word T.F_is_word.kp T.b_is_word .nil pass0 (pa_cons (pv 2) pa_nil)))) (pw_or (pt_cmpR OR.op_inK (pv 2) (pe_glob (v := .ref T.a_SPECIAL_WORDS) rfl T.c_SPECIAL_WORDS rfl) rfl) (pw_or1 (pt_cmpR op_in_seq (pv 2) (pe_slice sl_tupA (pv 0) po_none (po_some (pv 1))) rfl))))) (pss_one (ps_ret pe_bl)) pss_nil)))
    (pss_one (ps_ret pe_bl)))), ?_⟩
  refine ⟨_, rfl, a, us, rfl, .inr ha, _, _, rfl, rfl, _, rfl, ?_⟩
  refine ite2 (fun c => ?_) (fun c => ?_)
  · have c' := of_decide_eq_true c
    have e : parsFit ps = false := by unfold parsFit; rw [decide_eq_false (by omega)]; rfl
    have q' := q H (Same.refl H)
    rw [e] at q'; exact q'
  have c' : ¬ (12 : Int) < ((us.length : Nat) : Int) := fun z => c (decide_eq_true z)
  have e0 : parsFit ps = pfs [] ps := by unfold parsFit; rw [decide_eq_true (by omega), Bool.true_and]
  rw [e0] at q
  refine ⟨_, rfl, a, us, rfl, ha, ?_⟩
  refine OR.for_en (K := K) (a := a) (xs := us) (fun i σ H' => ∃ (seen : List Str) (y1 y2 : Option V), σ = [some (.ref a), y1, y2] ∧ Same H H' ∧ ps.take i = seen.map .w ∧ pfs [] ps = pfs seen (ps.drop i))
    ⟨[], _, _, rfl, Same.refl H, rfl, rfl⟩ (fun i σ H' _ h => let ⟨_, _, _, _, z, _⟩ := h; TK.same z _ _ ha) (fun i x Tt σ H1 hx h nT => ?_) (fun σ H1 h => ?_)
  · obtain ⟨seen, y1, y2, rfl, s1, et, ep⟩ := h
    obtain ⟨t, gt, ht⟩ := hus.tree hx
    have hi : i < ps.length := (List.getElem?_eq_some_iff.mp gt).1
    have edr : ps.drop i = t :: ps.drop (i + 1) := by
      rw [List.drop_eq_getElem_cons hi, (List.getElem?_eq_some_iff.mp gt).2]
    have s2 : Same H (upd H1 Tt (.tup [.int (i : Nat), x])) := s1.trans (same_new nT)
    have eT : (upd H1 Tt (.tup [.int (i : Nat), x])) Tt = some (.tup [.int (i : Nat), x]) := upd_same
    have ht2 := ht.tk (TK.same (K := K) s2)
    have hv2 := hv.tk (TK.same (K := K) s2)
    generalize (upd H1 Tt (.tup [.int (i : Nat), x])) = H2 at s2 eT ht2 hv2 ⊢
    refine ⟨Tt, _, rfl, SqT.of eT, rfl, _, _, rfl, _, _, rfl, rfl, ?_⟩
    rw [edr] at ep
    refine ⟨_, rfl, t, x, rfl, ht2, _, rfl, ?_⟩
    cases t with
    | l ts =>
      have q' := q H2 s2
      rw [ep] at q'
      exact q'
    | w s =>
      obtain rfl := isT_w.mp ht2
      refine ⟨_, rfl, T.a_SPECIAL_WORDS, spW, s, rfl, rfl, D, _, rfl, ?_⟩
      cases h1 : (OR.lkI spW s).isSome with
      | true =>
        have q' := q H2 s2
        rw [ep] at q'
        simp only [pfs, h1] at q'
        exact q'
      | false =>
        refine ⟨_, rfl, _, rfl, _, rfl, _, rfl, slA hv2 fun v3 H3 s3 i3 => ?_⟩
        rw [cutT_take (Nat.le_of_lt hi), et] at i3
        obtain ⟨a3, us3, rfl, ha3, hus3⟩ := isT_l.mp i3
        obtain rfl := isTs_words hus3
        refine ⟨a3, _, rfl, .inr ha3, rfl, flat_strs _, ?_⟩
        rw [show (if false then !inV (.str s) (seen.map V.str) else inV (.str s) (seen.map V.str)) = decide (s ∈ seen) from inV_strs s seen]
        refine ⟨_, rfl, ?_⟩
        by_cases hs : s ∈ seen
        · rw [decide_eq_true hs]
          have q' := q H3 (s2.trans s3)
          rw [ep] at q'
          simp only [pfs, h1, decide_eq_true hs] at q'
          exact q'
        · rw [decide_eq_false hs]
          refine ⟨seen ++ [s], _, _, rfl, s2.trans s3, by rw [List.take_add_one, gt, et]; simp, ?_⟩
          rw [ep]
          simp only [pfs, h1, decide_eq_false hs, Bool.not_false, Bool.true_and]
  · obtain ⟨seen, y1, y2, rfl, s1, et, ep⟩ := h
    rw [hl, List.drop_length] at ep
    have q' := q H1 s1
    rw [ep] at q'
    exact q'
/-! body_fits -/
theorem isTs_last {K : PySem.W.Frag} {H : Hp} : ∀ {ts : List Tr} {vs : List V}, IsTs K H ts vs → 0 < ts.length → ∃ ts' t vs' v, ts = ts' ++ [t] ∧ vs = vs' ++ [v] ∧ IsTs K H ts' vs' ∧ IsT K H t v
  | [], _, _, h => absurd h (Nat.lt_irrefl _)
  | [t], vs, h, _ => by
    obtain ⟨v, r, rfl, h1, h2⟩ := isTs_cons.mp h
    rw [isTs_nil.mp h2]
    exact ⟨[], t, [], v, rfl, rfl, IsTs.nil, h1⟩
  | t :: u :: ts, vs, h, _ => by
    obtain ⟨v, r, rfl, h1, h2⟩ := isTs_cons.mp h
    obtain ⟨ts', x, vs', y, e1, e2, h3, h4⟩ := isTs_last h2 (Nat.succ_pos _)
    exact ⟨t :: ts', x, v :: vs', y, by rw [e1]; rfl, by rw [e2]; rfl, IsTs.cons h1 h3, h4⟩
mutual
def goodE (ps : List Str) (c : List (Str × Int)) : Tr → Bool
  | .w s => decide (s ∈ ps)
  | .l [] => false
  | .l (.l _ :: _) => false
  | .l (.w h :: args) => decide (OR.lkI c h = some (args.length : Int)) && (decide (h = "quote") || goodEs ps c args)
def goodEs (ps : List Str) (c : List (Str × Int)) : List Tr → Bool
  | [] => true
  | t :: ts => goodE ps c t && goodEs ps c ts
end
theorem goodEs_app (ps : List Str) (c : List (Str × Int)) : ∀ as bs : List Tr, goodEs ps c (as ++ bs) = (goodEs ps c as && goodEs ps c bs)
  | [], bs => by simp [goodEs]
  | a :: as, bs => by simp [goodEs, goodEs_app ps c as bs, Bool.and_assoc]
def spBody (K : PySem.W.Frag) : Sp := fun vs H Q _ => ∃ (b : Tr) (ps : List Str) (c : List (Str × Int)) (vb vp : V) (p : Addr), vs = [vb, vp, .ref p] ∧ IsT K H b vb ∧ IsT K H (.l (ps.map .w)) vp ∧ H p = some (.dK (OR.kvV c)) ∧ b.size ≤ 1000000 ∧
  ∀ H', Same H H' → Q (.bl (goodE ps c b)) H'
theorem ok_body_fits {P : Program} {w : World} {K : PySem.W.Frag} {mg : Str → Option Value} {base : Heap} (T : Top K mg) {k : Nat} (G_is_word : FnOk P w K mg base CX0 1 T.a_is_word T.d_is_word ["value"] (spIsW K)) : FnOk P w K mg base CX0 (k + 2) T.a_body_fits T.d_body_fits ["body", "parameters", "counts"] (spBody K) := by
  refine T.F_body_fits.ok sc_body_fits (fun vs H Q E h => ?_) (fun cdv A outer s H vs Q E hr h => ?_)
  · obtain ⟨b, ps, c, vb, vp, p, rfl, _⟩ := h
    rfl
  obtain ⟨b, ps, c, vb, vp, p, rfl, hb, hp, ep, hz, q⟩ := h
  refine ⟨_, (pss_cons (ps_set (i := 3) sc_body_fits.nd rfl (Or.inl rfl) (pe_lst (pa_cons (pv 0) pa_nil)))
    (pss_cons (ps_while PassesOwn.never (pt_cmpR op_gt (pe_callB call_len_seq rfl T.n_len bo_len (pa_cons (pv 3) pa_nil)) pe_int (nomark _)) (pss_cons (ps_set (i := 4) sc_body_fits.nd rfl (Or.inl rfl) (pe_bm0 PySem.F.plainAttrs_list PySem.F.slot_list_pop PySem.F.type_list_pop mt_pop (pv 3)))
    (pss_one (ps_if (pt_val (pe_call G_is_word (hr.mono (by omega)) rfl T.m_is_word T.F_is_word.kp T.b_is_word .nil pass0 (pa_cons (pv 4) pa_nil))) (pss_one (ps_if (pt_cmpR op_notIn_seq (pv 4) (pv 1) rfl) (pss_one (ps_ret pe_bl)) pss_nil)) (pss_one (ps_if (PW.pt (pw_or (pt_cmpR op_eq (pe_callB call_len_seq rfl T.n_len bo_len (pa_cons (pv 4) pa_nil)) pe_int (nomark _)) (pw_or1 (pt_not (pt_val (pe_call G_is_word (hr.mono (by omega)) rfl T.m_is_word T.F_is_word.kp T.b_is_word .nil pass0 (pa_cons (pe_ix ix_tup (pv 4) pe_int (fun _ _ => rfl)) pa_nil))))))) (pss_one (ps_ret pe_bl)) (pss_one (ps_if (pt_cmpR op_ne (pe_dget1 (hu_of hr) (pv 2) (pe_ix ix_tup (pv 4) pe_int (fun _ _ => rfl)) ⟨by rfl, by rfl, by rfl, by rfl⟩) (pe_op op_sub (pe_callB call_len_seq rfl T.n_len bo_len (pa_cons (pv 4) pa_nil)) pe_int) (nomark _)) (pss_one (ps_ret pe_bl)) (pss_one (ps_if (pt_cmpR op_ne (pe_ix ix_tup (pv 4) pe_int (fun _ _ => rfl)) pe_str (nomark _)) (pss_one (ps_expr (pe_bm PySem.F.plainAttrs_list PySem.F.slot_list_extend PySem.F.type_list_extend OR.mt_extT (pv 3) (pa_cons (pe_slice sl_tupA (pv 4) (po_some pe_int) po_none) pa_nil)))) pss_nil))))))))))
    (pss_one (ps_ret pe_bl)))), ?_⟩
  obtain ⟨ap, us, rfl, hap, hus⟩ := isT_l.mp hp
  obtain rfl := isTs_words hus
  refine ⟨_, rfl, by show 1 ≤ sizeLine; decide, fun L nL => ?_⟩
  have s0 := same_new (o := .lst [vb]) nL
  refine ⟨fun m σ H' => ∃ (st : List Tr) (vs : List V) (y : Option V), σ = [some vb, some (.ref ap), some (.ref p), some (.ref L), y] ∧ Same H H' ∧ H' L = some (.lst vs) ∧ IsTs K H' st vs ∧ goodE ps c b = goodEs ps c st ∧ m = Tr.sizes st ∧ Tr.sizes st ≤ b.size, ?_, ?_⟩
  · exact ⟨_, [b], [vb], _, rfl, s0, upd_same, (IsTs.one hb).tk (TK.same s0), by simp [goodEs], rfl, by simp [Tr.sizes]⟩
  rintro m σ H1 ⟨st, vs, y, rfl, s1, eL, hst, hg, rfl, hsz⟩
  have lst := hst.length
  refine ⟨_, rfl, L, vs, rfl, .inl (SqL.of eL), _, _, rfl, rfl, _, rfl, ?_⟩
  refine ite2 (fun cc => ?_) (fun cc => ?_)
  · have c' := of_decide_eq_true cc
    obtain ⟨st', t, vs', x, rfl, rfl, hst', hx⟩ := isTs_last hst (by omega)
    have eg : goodEs ps c (st' ++ [t]) = (goodEs ps c st' && goodE ps c t) := by rw [goodEs_app]; simp [goodEs]
    have es : Tr.sizes (st' ++ [t]) = Tr.sizes st' + t.size := by rw [Tr.sizes_append]; simp [Tr.sizes]
    refine ⟨fun σ' H' => ∃ (st2 : List Tr) (vs : List V) (y : Option V), σ' = [some vb, some (.ref ap), some (.ref p), some (.ref L), y] ∧ Same H H' ∧ H' L = some (.lst vs) ∧ IsTs K H' st2 vs ∧ goodE ps c b = goodEs ps c st2 ∧ Tr.sizes st2 < Tr.sizes (st' ++ [t]), ?_, ?_⟩
    · rintro σ' H' ⟨st2, vs2, z, rfl, a1, a2, a3, a4, a5⟩
      exact ⟨_, a5, st2, vs2, z, rfl, a1, a2, a3, a4, rfl, by omega⟩
    refine ⟨_, rfl, .inl ⟨rfl, _, SqL.of eL⟩, L, _, x, rfl, rfl, eL, last_of _ _, ?_⟩
    rw [List.dropLast_concat]
    have tk1 : TK K H1 (upd H1 L (.lst vs')) := TK.put (mut_lst eL)
    have s2 : Same H (upd H1 L (.lst vs')) := fun b o e => by rw [upd_ne (ne_of_none e nL)]; exact s1 b o e
    have eL2 : (upd H1 L (.lst vs')) L = some (.lst vs') := upd_same
    have hst2 := hst'.tk tk1
    have hx2 := hx.tk tk1
    generalize (upd H1 L (.lst vs')) = H2 at s2 eL2 hst2 hx2 ⊢
    have ep2 := s2 _ _ ep
    have hap2 := TK.same (K := K) s2 _ _ hap
    have no : goodE ps c t = false → ∀ H', Same H2 H' → Q (.bl false) H' := fun e H' sm => by
      have q' := q H' (s2.trans sm)
      rw [hg, eg, e, Bool.and_false] at q'
      exact q'
    refine ⟨_, rfl, t, x, rfl, hx2, _, rfl, ?_⟩
    have tp := Tr.size_pos t
    cases t with
    | w s =>
      obtain rfl := isT_w.mp hx2
      refine ⟨_, rfl, _, rfl, ap, _, rfl, .inr hap2, rfl, flat_strs _, ?_⟩
      rw [show (if true then !inV (.str s) (ps.map V.str) else inV (.str s) (ps.map V.str)) = !decide (s ∈ ps) from by rw [if_pos rfl, inV_strs]]
      refine ⟨_, rfl, ?_⟩
      by_cases hs : s ∈ ps
      · rw [decide_eq_true hs]
        refine ⟨st', vs', _, rfl, s2, eL2, hst2, ?_, by rw [es]; omega⟩
        rw [hg, eg]; simp [goodE, hs]
      · rw [decide_eq_false hs]
        exact no (by simp [goodE, hs]) H2 (Same.refl H2)
    | l ts =>
      obtain ⟨a, us, rfl, ha, hus⟩ := isT_l.mp hx2
      have hl := hus.length
      have hlz := Tr.length_le_sizes ts
      simp only [Tr.size] at es
      refine ⟨_, rfl, a, us, rfl, .inr ha, rfl, _, rfl, ?_⟩
      cases ts with
      | nil =>
        rw [decide_eq_true (show V.int ((us.length : Nat) : Int) = V.int 0 by rw [hl]; rfl)]
        exact no (by simp [goodE]) H2 (Same.refl H2)
      | cons t0 args =>
        rw [decide_eq_false (show ¬ V.int ((us.length : Nat) : Int) = V.int 0 by rw [hl]; intro e; injection e with e; simp only [List.length_cons] at e; omega)]
        obtain ⟨u, r, rfl, i0, ir⟩ := isTs_cons.mp hus
        have lr := ir.length
        refine ⟨_, rfl, a, _, 0, u, rfl, rfl, ha, atI_of (by decide) rfl, t0, u, rfl, i0, _, rfl, ?_⟩
        cases t0 with
        | l _ => exact no (by simp [goodE]) H2 (Same.refl H2)
        | w h =>
          obtain rfl := isT_w.mp i0
          refine ⟨_, rfl, p, rfl, .inl ⟨_, .inl ep2⟩, _, rfl, a, _, 0, _, rfl, rfl, ha, atI_of (by decide) rfl, _, DGet.k (k := .inr h) ep2, ?_⟩
          rw [valV_kv]
          have lk : ((V.str h :: r).length : Int) - 1 = (args.length : Int) := by simp only [List.length_cons]; omega
          refine ⟨_, rfl, a, _, rfl, .inr ha, _, _, rfl, rfl, ?_⟩
          dsimp only
          rw [lk]
          refine ⟨by cases OR.lkI c h <;> rfl, _, rfl, ?_⟩
          by_cases hk : OR.lkI c h = some (args.length : Int)
          · have e1 : decide (((OR.lkI c h).map V.int).getD V.non = V.int (args.length : Int)) = true := decide_eq_true (by rw [hk]; rfl)
            rw [e1]
            refine ⟨_, rfl, a, _, 0, _, rfl, rfl, ha, atI_of (by decide) rfl, rfl, _, rfl, ?_⟩
            by_cases hq : h = "quote"
            · rw [decide_eq_true (show V.str h = V.str "quote" by rw [hq])]
              refine ⟨st', vs', _, rfl, s2, eL2, hst2, ?_, by rw [es]; omega⟩
              rw [hg, eg]; simp only [goodE]; rw [decide_eq_true hk, decide_eq_true hq]; simp
            · rw [decide_eq_false (show ¬ V.str h = V.str "quote" by intro e; injection e with e; exact hq e)]
              refine ⟨_, rfl, .inl ⟨rfl, _, SqL.of eL2⟩, _, rfl, _, rfl, ?_⟩
              dsimp only [tNoPart]
              have hl1 : (1 : Nat) ≤ (Tr.w h :: args).length := by simp
              refine slA (lo := some ((1 : Nat) : Int)) hx2 fun v3 H3 s3 i3 => ?_
              rw [cutT_drop hl1] at i3
              obtain ⟨a3, us3, rfl, ha3, hus3⟩ := isT_l.mp i3
              have l3 := hus3.length
              have eL3 := s3 _ _ eL2
              have l2 := hst2.length
              have b1 := Tr.length_le_sizes st'
              simp only [List.drop_succ_cons, List.drop_zero] at hus3 l3
              simp only [List.length_cons] at hlz
              refine ⟨L, a3, vs', us3, rfl, rfl, eL3, ha3, OG.sz (by omega), ?_⟩
              have tk4 : TK K H3 (upd H3 L (.lst (vs' ++ us3))) := TK.put (mut_lst eL3)
              refine ⟨st' ++ args, _, _, rfl, fun b o e => by rw [upd_ne (ne_of_none e nL)]; exact (s2.trans s3) b o e, upd_same, ((hst2.tk (TK.same s3)).append hus3).tk tk4, ?_, ?_⟩
              · rw [hg, eg, goodEs_app]; simp [goodE, hk, hq]
              · rw [es, Tr.sizes_append]; simp only [Tr.sizes]; omega
          · have e1 : decide (((OR.lkI c h).map V.int).getD V.non = V.int (args.length : Int)) = false := decide_eq_false (by
              intro e
              cases hlk : OR.lkI c h with
              | none => rw [hlk] at e; cases e
              | some j => rw [hlk] at e; injection e with e; exact hk (by rw [hlk, e]))
            rw [e1]
            exact no (by simp [goodE, hk]) H2 (Same.refl H2)
  · have c' : ¬ (0 : Int) < ((vs.length : Nat) : Int) := fun z => cc (decide_eq_true z)
    have e0 : st = [] := List.eq_nil_of_length_eq_zero (by omega)
    subst e0
    have q' := q H1 s1
    rw [hg] at q'
    exact q'

/-! ### check_program (where it is right), inputs_of -/
def wOf : Tr → Str
  | .w s => s
  | .l _ => ""
def goodFs (c : List (Str × Int)) (many : Int) : List Str → List Tr → Bool
  | _, [] => true
  | seen, .l [.w n, .l ps, b] :: fs => nameFits n (decide (n ∈ seen)) many && (parsFit ps && (goodE (ps.map wOf) c b && goodFs c many (seen ++ [n]) fs))
  | _, _ :: _ => false
structure GoodP (prog : List Tr) : Prop where
  ne : 0 < prog.length
  len : prog.length ≤ 100000
  sz : Tr.sizes prog ≤ 900000
  names : ∀ n ps b, Tr.l [.w n, .l ps, b] ∈ prog → NameOk n
  good : goodFs (cnt prog) prog.length [] prog = true
theorem pfs_words : ∀ {ps : List Tr} {seen : List Str}, pfs seen ps = true → ps = (ps.map wOf).map .w
  | [], _, _ => rfl
  | .l _ :: _, _, h => by cases h
  | .w s :: r, seen, h => by
    simp only [pfs, Bool.and_eq_true] at h
    have := pfs_words h.2.2
    simp only [List.map_cons, wOf]
    rw [← this]
theorem parsFit_words {ps : List Tr} (h : parsFit ps = true) : ps = (ps.map wOf).map .w := by
  unfold parsFit at h
  rw [Bool.and_eq_true] at h
  exact pfs_words h.2
def seenD (seen : List Str) : List (Key × V) := seen.map fun s => (.inr s, .bl true)
theorem seenD_in (n : Str) : ∀ seen : List Str, (valV (seenD seen) (.inr n)).isSome = decide (n ∈ seen)
  | [] => by simp [seenD, valV_nil]
  | s :: r => by
    have ih := seenD_in n r
    by_cases h : s = n
    · subst h
      rw [show seenD (s :: r) = (.inr s, .bl true) :: seenD r from rfl, valV_pos rfl]; simp
    · rw [show seenD (s :: r) = (.inr s, .bl true) :: seenD r from rfl, valV_neg (by intro e; exact h (Sum.inr.inj e)), ih]
      simp [Ne.symm h]
theorem goodFs_cons {c : List (Str × Int)} {many : Int} {seen : List Str} {f : Tr} {fs : List Tr} (h : goodFs c many seen (f :: fs) = true) :
    ∃ n ps b, f = .l [.w n, .l ps, b] ∧ nameFits n (decide (n ∈ seen)) many = true ∧ parsFit ps = true ∧ goodE (ps.map wOf) c b = true ∧ goodFs c many (seen ++ [n]) fs = true := by
  unfold goodFs at h
  split at h
  · rename_i e; cases e
  · rename_i n ps b fs' e
    cases e
    simp only [Bool.and_eq_true] at h
    exact ⟨n, ps, b, rfl, h.1, h.2.1, h.2.2.1, h.2.2.2⟩
  · cases h
def spCheck (K : PySem.W.Frag) : Sp := fun vs H Q _ => ∃ (prog : List Tr) (v : V), vs = [v] ∧ IsT K H (.l prog) v ∧ GoodP prog ∧ ∀ H', Same H H' → Q .non H'
theorem ok_check_program {P : Program} {w : World} {K : PySem.W.Frag} {mg : Str → Option Value} {base : Heap} (T : Top K mg) {k : Nat}
    (G_is_word : FnOk P w K mg base CX0 1 T.a_is_word T.d_is_word ["value"] (spIsW K)) (G_has_head : FnOk P w K mg base CX0 2 T.a_has_head T.d_has_head ["function"] (spHasHead K))
    (G_counts_of : FnOk P w K mg base CX0 3 T.a_counts_of T.d_counts_of ["program"] (spCounts K)) (G_name_fits : FnOk P w K mg base CX0 1 T.a_name_fits T.d_name_fits ["name", "names", "many"] (spName K))
    (G_parameters_fit : FnOk P w K mg base CX0 2 T.a_parameters_fit T.d_parameters_fit ["parameters"] (spPars K)) (G_body_fits : FnOk P w K mg base CX0 2 T.a_body_fits T.d_body_fits ["body", "parameters", "counts"] (spBody K)) :
    FnOk P w K mg base CX0 (k + 4) T.a_check_program T.d_check_program ["value"] (spCheck K) := by
  refine T.F_check_program.ok sc_check_program (fun vs H Q E h => ?_) (fun cdv A outer s H vs Q E hr h => ?_)
  · obtain ⟨prog, v, rfl, _⟩ := h
    rfl
  obtain ⟨prog, v, rfl, hv, G, q⟩ := h
  have g1 := G.ne
  have g2 := G.len
  have g3 := G.sz
  refine ⟨_, (pss_cons (ps_if (PW.pt (pw_or (pt_val (pe_call G_is_word (hr.mono (by omega)) rfl T.m_is_word T.F_is_word.kp T.b_is_word .nil pass0 (pa_cons (pv 0) pa_nil))) (pw_or1 (pt_cmpR op_eq (pe_callB call_len_seq rfl T.n_len bo_len (pa_cons (pv 0) pa_nil)) pe_int (nomark _))))) (pss_one ps_never) pss_nil)
    (pss_cons (ps_set (i := 1) sc_check_program.nd rfl (Or.inl rfl) (pe_call G_counts_of (hr.mono (by omega)) rfl T.m_counts_of T.F_counts_of.kp T.b_counts_of .nil pass0 (pa_cons (pv 0) pa_nil)))
    (pss_cons (ps_set (i := 2) sc_check_program.nd rfl (Or.inl rfl) pe_dnewK)
    (pss_one (ps_for PassesOwn.never rfl (OR.pi_enT rfl T.n_enumerate (pa_cons (pv 0) pa_nil)) (pg_tup (by rfl) (pgs_cons (pg_name (i := 3) sc_check_program.nd rfl (Or.inl rfl)) (pgs_cons (pg_name (i := 4) sc_check_program.nd rfl (Or.inl rfl)) pgs_nil))) (pss_cons (ps_if (pt_not (pt_val (pe_call G_has_head (hr.mono (by omega)) rfl T.m_has_head T.F_has_head.kp T.b_has_head .nil pass0 (pa_cons (pv 4) pa_nil)))) (pss_one ps_never) pss_nil)
    (pss_cons (ps_asg (pv 4) (pg_tup (by rfl) (pgs_cons (pg_name (i := 5) sc_check_program.nd rfl (Or.inl rfl)) (pgs_cons (pg_name (i := 6) sc_check_program.nd rfl (Or.inl rfl)) (pgs_cons (pg_name (i := 7) sc_check_program.nd rfl (Or.inl rfl)) pgs_nil)))))
    (pss_cons (ps_if (PW.pt (pw_or (pt_not (pt_val (pe_call G_name_fits (hr.mono (by omega)) rfl T.m_name_fits T.F_name_fits.kp T.b_name_fits .nil pass0 (pa_cons (pv 5) (pa_cons (pv 2) (pa_cons (pe_callB call_len_seq rfl T.n_len bo_len (pa_cons (pv 0) pa_nil)) pa_nil)))))) (pw_or1 (pt_not (pt_val (pe_call G_parameters_fit (hr.mono (by omega)) rfl T.m_parameters_fit T.F_parameters_fit.kp T.b_parameters_fit .nil pass0 (pa_cons (pv 6) pa_nil))))))) (pss_one ps_never) pss_nil)
    (pss_cons (ps_if (pt_not (pt_val (pe_call G_body_fits (hr.mono (by omega)) rfl T.m_body_fits T.F_body_fits.kp T.b_body_fits .nil pass0 (pa_cons (pv 7) (pa_cons (pv 6) (pa_cons (pv 1) pa_nil)))))) (pss_one ps_never) pss_nil)
    (pss_one (ps_dput (hu_of hr) (pv 2) (pv 5) pe_bl rfl))))))))))), ?_⟩
  obtain ⟨a, us, rfl, ha, hus⟩ := isT_l.mp hv
  have hl := hus.length
  refine ⟨_, rfl, .l prog, _, rfl, hv, _, rfl, ?_⟩
  refine ⟨_, rfl, a, us, rfl, .inr ha, rfl, _, rfl, ?_⟩
  rw [decide_eq_false (show ¬ V.int ((us.length : Nat) : Int) = V.int 0 by rw [hl]; intro e; injection e with e; omega)]
  refine ⟨_, rfl, prog, _, rfl, hv, g2, fun p H1 s1 np ep => ?_⟩
  refine fun d nd => ?_
  have s2 : Same H (upd H1 d (.dK [])) := s1.trans (same_new nd)
  have dH : H d = none := s1.free nd
  have npd : p ≠ d := ne_of_none ep nd
  refine ⟨_, rfl, a, us, rfl, TK.same s2 _ _ ha, ?_⟩
  refine OR.for_en (K := K) (a := a) (xs := us) (fun i σ H' => ∃ (seen : List Str) (y3 y4 y5 y6 y7 : Option V), σ = [some (.ref a), some (.ref p), some (.ref d), y3, y4, y5, y6, y7] ∧ Same H H' ∧ H' p = some (.dK (OR.kvV (cnt prog))) ∧ H' d = some (.dK (seenD seen)) ∧ seen.length = i ∧ goodFs (cnt prog) prog.length seen (prog.drop i) = true)
    ⟨[], _, _, _, _, _, rfl, s2, (same_new nd) _ _ ep, upd_same, rfl, by simpa using G.good⟩ (fun i σ H' _ h => let ⟨_, _, _, _, _, _, _, z, _⟩ := h; TK.same z _ _ ha) (fun i x Tt σ H2 hx h nT => ?_) (fun σ H2 h => ?_)
  · obtain ⟨seen, y3, y4, y5, y6, y7, rfl, k2, ep2, ed2, ls, hg⟩ := h
    obtain ⟨t, gt, ht⟩ := hus.tree hx
    have hi : i < prog.length := (List.getElem?_eq_some_iff.mp gt).1
    have edr : prog.drop i = t :: prog.drop (i + 1) := by
      rw [List.drop_eq_getElem_cons hi, (List.getElem?_eq_some_iff.mp gt).2]
    have k3 : Same H2 (upd H2 Tt (.tup [.int (i : Nat), x])) := same_new nT
    have eT : (upd H2 Tt (.tup [.int (i : Nat), x])) Tt = some (.tup [.int (i : Nat), x]) := upd_same
    have ep3 := k3 _ _ ep2
    have ed3 := k3 _ _ ed2
    have k4 := k2.trans k3
    generalize (upd H2 Tt (.tup [.int (i : Nat), x])) = H3 at k4 eT ep3 ed3 ⊢
    clear k3
    rw [edr] at hg
    obtain ⟨n, ps, b, rfl, c1, c2, c3, c4⟩ := goodFs_cons hg
    have tm : Tr.l [.w n, .l ps, b] ∈ prog := List.mem_of_getElem? gt
    have ht3 := ht.tk (TK.same (K := K) k4)
    have szt := Tr.size_mem tm
    simp only [Tr.size, Tr.sizes] at szt
    refine ⟨Tt, _, rfl, SqT.of eT, rfl, _, _, rfl, _, _, rfl, rfl, ?_⟩
    refine ⟨_, rfl, _, x, rfl, ht3, _, rfl, ?_⟩
    obtain ⟨af, usf, rfl, haf, husf⟩ := isT_l.mp ht3
    obtain ⟨u0, r0, rfl, i0, ir0⟩ := isTs_cons.mp husf
    obtain ⟨u1, r1, rfl, i1, ir1⟩ := isTs_cons.mp ir0
    obtain ⟨u2, r2, rfl, i2, ir2⟩ := isTs_cons.mp ir1
    obtain rfl := isTs_nil.mp ir2
    obtain rfl := isT_w.mp i0
    refine ⟨_, rfl, af, _, rfl, haf, rfl, _, _, rfl, _, _, rfl, _, _, rfl, rfl, ?_⟩
    refine ⟨_, rfl, _, rfl, _, rfl, a, us, rfl, .inr (TK.same k4 _ _ ha), n, d, _, _, rfl, ed3, G.names _ _ _ tm, _, rfl, ?_⟩
    rw [seenD_in, hl, c1]
    refine ⟨_, rfl, ps, u1, rfl, i1, fun H4 k5 => ⟨_, rfl, ?_⟩⟩
    rw [c2]
    have k6 := k4.trans k5
    have i2b := i2.tk (TK.same (K := K) k5)
    have i1b : IsT K H4 (.l ((ps.map wOf).map .w)) u1 := by
      rw [← parsFit_words c2]; exact i1.tk (TK.same (K := K) k5)
    refine ⟨_, rfl, _, rfl, _, rfl, b, ps.map wOf, cnt prog, u2, u1, p, rfl, i2b, i1b, k5 _ _ ep3, by omega, fun H5 k7 => ⟨_, rfl, ?_⟩⟩
    rw [c3]
    have ed5 := k7 _ _ (k5 _ _ ed3)
    have ep5 := k7 _ _ (k5 _ _ ep3)
    refine ⟨_, rfl, _, rfl, d, _, rfl, DPut.k (k := .inr n) ed5 (by simp only [seenD, List.length_map]; exact szl (by omega)), ?_⟩
    have nin : n ∉ seen := by
      intro h
      rw [decide_eq_true h] at c1
      simp [nameFits] at c1
    have eput : putK (seenD seen) (.inr n) (V.bl true) = seenD (seen ++ [n]) := by
      rw [putK_new _ (by
        have := seenD_in n seen
        rw [decide_eq_false nin] at this
        cases h : valV (seenD seen) (.inr n) with
        | none => rfl
        | some _ => rw [h] at this; cases this)]
      simp [seenD]
    rw [eput]
    refine ⟨seen ++ [n], _, _, _, _, _, rfl, fun z o e => ?_, ?_, upd_same, by simp [ls], c4⟩
    · rw [upd_ne (ne_of_none e dH)]; exact k7 _ _ (k6 z o e)
    · rw [upd_ne npd]; exact ep5
  · obtain ⟨seen, y3, y4, y5, y6, y7, rfl, k2, _⟩ := h
    exact q H2 k2
def nPar (prog : List Tr) : Nat := match prog with
  | .l [_, .l ps, _] :: _ => ps.length
  | _ => 0
theorem GoodP.first {prog : List Tr} (G : GoodP prog) : ∃ n ps b r, prog = .l [.w n, .l ps, b] :: r ∧ NameOk n ∧ parsFit ps = true := by
  have h := G.good
  cases hp : prog with
  | nil => have := G.ne; rw [hp] at this; cases this
  | cons f fs =>
    rw [hp] at h
    obtain ⟨n, ps, b, e, _, c2, _⟩ := goodFs_cons h
    exact ⟨n, ps, b, fs, by rw [e], G.names n ps b (by rw [hp, e]; simp), c2⟩
def spInputs (K : PySem.W.Frag) : Sp := fun vs H Q _ => ∃ (prog : List Tr) (v : V), vs = [v] ∧ IsT K H (.l prog) v ∧ GoodP prog ∧ ∀ H', Same H H' → Q (.int (nPar prog)) H'
theorem ok_inputs_of {P : Program} {w : World} {K : PySem.W.Frag} {mg : Str → Option Value} {base : Heap} (T : Top K mg) {k : Nat} (G_check_program : FnOk P w K mg base CX0 4 T.a_check_program T.d_check_program ["value"] (spCheck K)) : FnOk P w K mg base CX0 (k + 5) T.a_inputs_of T.d_inputs_of ["program"] (spInputs K) := by
  refine T.F_inputs_of.ok sc_inputs_of (fun vs H Q E h => ?_) (fun cdv A outer s H vs Q E hr h => ?_)
  · obtain ⟨prog, v, rfl, _⟩ := h
    rfl
  obtain ⟨prog, v, rfl, hv, G, q⟩ := h
  refine ⟨_, (pss_cons (ps_expr (pe_call G_check_program (hr.mono (by omega)) rfl T.m_check_program T.F_check_program.kp T.b_check_program .nil pass0 (pa_cons (pv 0) pa_nil)))
    (pss_one (ps_ret (pe_callB call_len_seq rfl T.n_len bo_len (pa_cons (pe_ix ix_tup (pe_ix ix_tup (pv 0) pe_int (fun _ _ => rfl)) pe_int (fun _ _ => rfl)) pa_nil))))), ?_⟩
  refine ⟨_, rfl, prog, v, rfl, hv, G, fun H1 s1 => ?_⟩
  obtain ⟨n, ps, b, r, rfl, _⟩ := G.first
  obtain ⟨a, us, rfl, ha, hus⟩ := isT_l.mp (hv.tk (TK.same (K := K) s1))
  obtain ⟨u, us', rfl, i0, _⟩ := isTs_cons.mp hus
  obtain ⟨af, usf, rfl, haf, husf⟩ := isT_l.mp i0
  obtain ⟨u0, r0, rfl, _, ir0⟩ := isTs_cons.mp husf
  obtain ⟨u1, r1, rfl, i1, _⟩ := isTs_cons.mp ir0
  obtain ⟨ap, usp, rfl, hap, husp⟩ := isT_l.mp i1
  have lp := husp.length
  refine ⟨_, rfl, a, _, 0, _, rfl, rfl, ha, atI_of (by decide) rfl, af, _, 1, _, rfl, rfl, haf, atI_of (by decide) rfl, ap, usp, rfl, .inr hap, ?_⟩
  rw [lp]
  exact q H1 s1

/-! ### making.py: made_name, made_parameters -/
def mn (k : Nat) : Str := "f" ++ Str.ofString (toString (k : Int))
def xn (k : Nat) : Str := "x" ++ Str.ofString (toString ((k + 1 : Nat) : Int))
def xs (m : Nat) : List Tr := (List.range m).map fun k => .w (xn k)
theorem small_log : ∀ k < 45, ((k : Nat) : Int).natAbs.log2 < 1920 ∧ (Str.ofString (toString ((k : Nat) : Int))).length ≤ 10 := by decide +kernel
def spMade : Sp := fun vs H Q _ => ∃ k : Nat, vs = [.int k] ∧ k ≤ 40 ∧ Q (.str (mn k)) H
theorem ok_made_name {P : Program} {w : World} {K : PySem.W.Frag} {mg : Str → Option Value} {base : Heap} (T : Top K mg) {k : Nat} : FnOk P w K mg base CX0 (k + 1) T.a_made_name T.d_made_name ["number"] spMade := by
  refine T.F_made_name.ok sc_made_name (fun vs H Q E h => ?_) (fun cdv A outer s H vs Q E hr h => ?_)
  · obtain ⟨n, rfl, _⟩ := h
    rfl
  obtain ⟨n, rfl, hn, q⟩ := h
  obtain ⟨h1, h2⟩ := small_log n (by omega)
  refine ⟨_, (pss_one (ps_ret (pe_op op_add_str pe_str (pe_callTy call_str_int rfl T.n_str bo_str (pa_cons (pv 0) pa_nil))))), ?_⟩
  exact ⟨_, rfl, _, rfl, h1, _, _, rfl, rfl, OG.sz (by rw [show ("f" : Str).length = 1 by decide +kernel]; omega), q⟩
def spXs (K : PySem.W.Frag) : Sp := fun vs H Q _ => ∃ m : Nat, vs = [.int m] ∧ m ≤ 40 ∧ ∀ (v : V) (H' : Hp), Same H H' → IsT K H' (.l (xs m)) v → Q v H'
theorem ok_made_parameters {P : Program} {w : World} {K : PySem.W.Frag} {mg : Str → Option Value} {base : Heap} (T : Top K mg) {k : Nat} : FnOk P w K mg base CX0 (k + 1) T.a_made_parameters T.d_made_parameters ["many"] (spXs K) := by
  refine T.F_made_parameters.ok sc_made_parameters (fun vs H Q E h => ?_) (fun cdv A outer s H vs Q E hr h => ?_)
  · obtain ⟨n, rfl, _⟩ := h
    rfl
  obtain ⟨m, rfl, hm, q⟩ := h
  refine ⟨_, (pss_one (ps_ret (pe_callTy call_tuple_of rfl T.n_tuple bo_tuple (pa_cons (pe_lc (own := [("k", 1)]) (g := gName 1) (tt := tYes) (by rfl) sc_made_parameters.nd (pi_range1 rfl T.n_range (pa_cons (pv 0) pa_nil)) (blkOk_by (N := ["many", "k"]) (sc := defScope s_made_parameters) (by decide +kernel)) (fun _ _ _ _ _ => pg_name (i := 1) sc_made_parameters.nd rfl (Or.inl rfl)) (fun _ _ _ _ _ => pts_nil) (fun _ _ _ _ _ => (pe_op op_add_str pe_str (pe_callTy call_str_int rfl T.n_str bo_str (pa_cons (pe_op op_add (pv 1) pe_int) pa_nil))))) pa_nil)))), ?_⟩
  refine ⟨_, rfl, m, rfl, by omega, by omega, fun D nD => ?_⟩
  rw [show ((m : Nat) : Int).toNat = m by omega]
  refine lc_range (lo := 0) (n := m) (fun i H' => ∃ ys : List V, Same H H' ∧ H' D = some (.lst ys) ∧ IsTs K H' (xs i) ys)
    ⟨[], same_new nD, upd_same, IsTs.nil⟩ (fun i H1 hi h => ?_) (fun H1 h => ?_)
  · obtain ⟨ys, s1, eD, iy⟩ := h
    have ei : (0 : Int) + (i : Int) + 1 = ((i + 1 : Nat) : Int) := by omega
    obtain ⟨h1, h2⟩ := small_log (i + 1) (by omega)
    have ly := iy.length
    have lx : (xs i).length = i := by simp [xs]
    refine ⟨rfl, _, rfl, _, _, rfl, rfl, ?_⟩
    dsimp only
    rw [ei]
    refine ⟨_, rfl, h1, _, _, rfl, rfl, OG.sz (by rw [show ("x" : Str).length = 1 by decide +kernel]; omega), ?_⟩
    refine ⟨ys, eD, szl (by omega), ys ++ [.str (xn i)], fun b o e => by rw [upd_ne (ne_of_none e nD)]; exact s1 b o e, upd_same, ?_⟩
    have : xs (i + 1) = xs i ++ [.w (xn i)] := by simp [xs, List.range_succ]
    rw [this]
    exact (iy.snoc IsT.str).tk (TK.put (mut_lst eD))
  · obtain ⟨ys, s1, eD, iy⟩ := h
    exact ⟨D, ys, rfl, .inl ⟨SqL.of eD, newT iy fun v' H' s2 iv => q v' H' (s1.trans s2) iv⟩⟩

/-! ### renamed_expression -/
def special (h : Str) : Bool := (OR.lkI spW h).isSome
def nwH (f : Str → Str) (h : Str) : Str := if special h then h else f h
mutual
def ren (f : Str → Str) : Tr → Tr
  | .w s => .w s
  | .l [] => .l []
  | .l (.l x :: args) => .l (.l x :: args)
  | .l (.w h :: args) => if h = "quote" then .l (.w h :: args) else .l (.w (nwH f h) :: rens f args)
def rens (f : Str → Str) : List Tr → List Tr
  | [] => []
  | t :: ts => ren f t :: rens f ts
end
theorem rens_map (f : Str → Str) : ∀ ts : List Tr, rens f ts = ts.map (ren f)
  | [] => rfl
  | t :: ts => by simp [rens, rens_map f ts]
theorem ren_call {f : Str → Str} {h : Str} {args : List Tr} (hq : h ≠ "quote") : ren f (.l (.w h :: args)) = .l (.w (nwH f h) :: args.map (ren f)) := by
  simp only [ren]; rw [if_neg hq, rens_map]
/-- what stays to be done, the top first -/
def exec (f : Str → Str) : List (Tr × Bool) → List Tr → List Tr
  | [], m => m
  | (e, false) :: st, m => exec f st (ren f e :: m)
  | (.l (.w h :: args), true) :: st, m => exec f st (.l (.w (nwH f h) :: m.take args.length) :: m.drop args.length)
  | (_, true) :: st, m => exec f st m
def okS (ps : List Str) (c : List (Str × Int)) : List (Tr × Bool) → Nat → Prop
  | [], n => n = 1
  | (e, false) :: st, n => goodE ps c e = true ∧ okS ps c st (n + 1)
  | (e, true) :: st, n => (∃ h args, e = .l (.w h :: args) ∧ h ≠ "quote" ∧ (OR.lkI c h).isSome = true ∧ args.length ≤ n ∧ okS ps c st (n - args.length + 1))
def wtE : Tr × Bool → Nat
  | (e, false) => 2 * e.size
  | (_, true) => 1
def wtS : List (Tr × Bool) → Nat
  | [] => 0
  | x :: r => wtE x + wtS r
theorem wtS_app : ∀ a b : List (Tr × Bool), wtS (a ++ b) = wtS a + wtS b
  | [], b => by simp [wtS]
  | x :: a, b => by simp [wtS, wtS_app a b]; omega
theorem wtE_pos (x : Tr × Bool) : 1 ≤ wtE x := by
  obtain ⟨e, b⟩ := x
  cases b with
  | false => have := Tr.size_pos e; show 1 ≤ 2 * e.size; omega
  | true => exact Nat.le_refl _
theorem wtS_len : ∀ a : List (Tr × Bool), a.length ≤ wtS a
  | [] => Nat.le_refl _
  | x :: a => by have := wtS_len a; have := wtE_pos x; simp only [wtS, List.length_cons]; omega
theorem wtS_args : ∀ args : List Tr, wtS (args.map fun t => (t, false)) = 2 * Tr.sizes args
  | [] => rfl
  | t :: ts => by simp only [List.map_cons, wtS, wtS_args ts, Tr.sizes, wtE]; omega
theorem exec_push (f : Str → Str) (rest : List (Tr × Bool)) : ∀ (args : List Tr) (m : List Tr), exec f ((args.map fun t => (t, false)).reverse ++ rest) m = exec f rest (args.map (ren f) ++ m)
  | [], m => rfl
  | t :: ts, m => by
    rw [List.map_cons, List.reverse_cons, List.append_assoc]
    have : exec f ((ts.map fun t => (t, false)).reverse ++ ([(t, false)] ++ rest)) m = exec f ([(t, false)] ++ rest) (ts.map (ren f) ++ m) := by
      have e : ∀ (r : List (Tr × Bool)) (as : List Tr) (m : List Tr), exec f ((as.map fun t => (t, false)).reverse ++ r) m = exec f r (as.map (ren f) ++ m) := by
        intro r as
        induction as generalizing r with
        | nil => intro m; rfl
        | cons a as ih =>
          intro m
          rw [List.map_cons, List.reverse_cons, List.append_assoc, ih]
          rfl
      exact e _ ts m
    rw [this]; rfl
theorem okS_push (ps : List Str) (c : List (Str × Int)) : ∀ (args : List Tr) (rest : List (Tr × Bool)) (n : Nat), goodEs ps c args = true → okS ps c rest (n + args.length) → okS ps c ((args.map fun t => (t, false)).reverse ++ rest) n := by
  intro args
  induction args with
  | nil => intro rest n _ h; exact h
  | cons a as ih =>
    intro rest n hg h
    simp only [goodEs, Bool.and_eq_true] at hg
    rw [List.map_cons, List.reverse_cons, List.append_assoc]
    refine ih _ n hg.2 ⟨hg.1, ?_⟩
    rw [List.length_cons, ← Nat.add_assoc] at h
    exact h
def wrel (K : PySem.W.Frag) (H : Hp) (p : Tr × Bool) (v : V) : Prop := ∃ e x, v = .ref e ∧ SqT K H e [x, .bl p.2] ∧ IsT K H p.1 x
theorem wrel_tk {K : PySem.W.Frag} {H H' : Hp} (k : TK K H H') {p : Tr × Bool} {v : V} : wrel K H p v → wrel K H' p v := fun ⟨e, x, h1, h2, h3⟩ => ⟨e, x, h1, k _ _ h2, h3.tk k⟩
theorem spec_in (h : Str) : decide (h ∈ (["quote", "if", "same", "word", "head", "tail", "join"] : List Str)) = special h := by
  have key : ∀ (kvs : List (Str × Int)), decide (h ∈ kvs.map (·.1)) = (OR.lkI kvs h).isSome := by
    intro kvs
    induction kvs with
    | nil => simp [OR.lkI]
    | cons x r ih =>
      unfold OR.lkI at ih ⊢
      rw [List.find?_cons, List.map_cons]
      by_cases e : x.1 = h
      · rw [decide_eq_true e, decide_eq_true (by rw [e]; simp)]; rfl
      · rw [decide_eq_false e, ← ih]
        exact decide_eq_decide.mpr ⟨fun z => by rcases List.mem_cons.mp z with q | q; exact absurd q.symm e; exact q, fun z => List.mem_cons_of_mem _ z⟩
  exact key spW
def spRenE (K : PySem.W.Frag) : Sp := fun vs H Q _ => ∃ (e : Tr) (v : V) (p : Addr) (kvs : List (Key × V)) (ps : List Str) (c : List (Str × Int)) (f : Str → Str), vs = [v, .ref p] ∧ IsT K H e v ∧ H p = some (.dK kvs) ∧ goodE ps c e = true ∧ e.size ≤ 400000 ∧
  (∀ h, (OR.lkI c h).isSome = true → special h = false → valV kvs (.inr h) = some (.str (f h))) ∧ ∀ (v' : V) (H' : Hp), Same H H' → IsT K H' (ren f e) v' → Q v' H'
theorem ok_renamed_expression {P : Program} {w : World} {K : PySem.W.Frag} {mg : Str → Option Value} {base : Heap} (T : Top K mg) {k : Nat} : FnOk P w K mg base CX0 (k + 1) T.a_renamed_expression T.d_renamed_expression ["expression", "names"] (spRenE K) := by
  refine T.F_renamed_expression.ok sc_renamed_expression (fun vs H Q E h => ?_) (fun cdv A outer s H vs Q E hr h => ?_)
  · obtain ⟨e, v, p, kvs, ps, c, f, rfl, _⟩ := h
    rfl
  obtain ⟨e, v, p, kvs, ps, c, f, rfl, hv, ep, hg, hsz, hn, q⟩ := h
  refine ⟨_, (pss_cons (ps_set (i := 2) sc_renamed_expression.nd rfl (Or.inl rfl) (pe_lst (pa_cons (pe_tup (pa_cons (pv 0) (pa_cons pe_bl pa_nil))) pa_nil)))
    (pss_cons (ps_set (i := 3) sc_renamed_expression.nd rfl (Or.inr rfl) (pe_lst pa_nil))
    (pss_cons (ps_while PassesOwn.never (pt_cmpR op_gt (pe_callB call_len_seq rfl T.n_len bo_len (pa_cons (pv 2) pa_nil)) pe_int (nomark _)) (pss_cons (ps_asg (pe_bm0 PySem.F.plainAttrs_list PySem.F.slot_list_pop PySem.F.type_list_pop mt_pop (pv 2)) (pg_tup (by rfl) (pgs_cons (pg_name (i := 4) sc_renamed_expression.nd rfl (Or.inl rfl)) (pgs_cons (pg_name (i := 5) sc_renamed_expression.nd rfl (Or.inl rfl)) pgs_nil))))
    (pss_one (ps_if (PW.pt (pw_or (pt_val (pe_callB call_isi rfl T.n_isinstance bo_isinstance (pa_cons (pv 4) (pa_cons (pe_bltn (v := .ty "str") rfl T.n_str bo_str rfl) pa_nil)))) (pw_or1 (pt_cmpR op_eq (pe_ix ix_tup (pv 4) pe_int (fun _ _ => rfl)) pe_str (nomark _))))) (pss_one (ps_expr (pe_bm PySem.F.plainAttrs_list PySem.F.slot_list_append PySem.F.type_list_append mt_append (pv 3) (pa_cons (pv 4) pa_nil)))) (pss_one (ps_if (pt_not (pt_val (pv 5))) (pss_cons (ps_expr (pe_bm PySem.F.plainAttrs_list PySem.F.slot_list_append PySem.F.type_list_append mt_append (pv 2) (pa_cons (pe_tup (pa_cons (pv 4) (pa_cons pe_bl pa_nil))) pa_nil)))
    (pss_one (ps_expr (pe_bm PySem.F.plainAttrs_list PySem.F.slot_list_extend PySem.F.type_list_extend mt_extend (pv 2) (pa_cons (pe_lc (own := [("part", 7)]) (g := gName 7) (tt := tYes) (by rfl) sc_renamed_expression.nd (pi_tup (pe_slice sl_tupA (pv 4) (po_some pe_int) po_none)) (blkOk_by (N := ["expression", "names", "waiting", "made", "one", "is_ready", "word", "part", "_"]) (sc := defScope s_renamed_expression) (by decide +kernel)) (fun _ _ _ _ _ => pg_name (i := 7) sc_renamed_expression.nd rfl (Or.inl rfl)) (fun _ _ _ _ _ => pts_nil) (fun _ _ _ _ _ => (pe_tup (pa_cons (pv 7) (pa_cons pe_bl pa_nil))))) pa_nil))))) (pss_cons (ps_set (i := 6) sc_renamed_expression.nd rfl (Or.inl rfl) (pe_ifExp (pt_cmpR op_in_seq (pe_ix ix_tup (pv 4) pe_int (fun _ _ => rfl)) (pe_glob (v := .ref T.a_SPECIAL) rfl T.c_SPECIAL rfl) rfl) (pe_ix ix_tup (pv 4) pe_int (fun _ _ => rfl)) (pe_dget (hu_of hr) (pv 1) (pe_ix ix_tup (pv 4) pe_int (fun _ _ => rfl)) (fun _ _ => rfl))))
    (pss_one (ps_expr (pe_bm PySem.F.plainAttrs_list PySem.F.slot_list_append PySem.F.type_list_append mt_append (pv 3) (pa_cons (pe_op op_catA (pe_tup (pa_cons (pv 6) pa_nil)) (pe_callTy call_tuple_of rfl T.n_tuple bo_tuple (pa_cons (pe_lc (own := [("_", 8)]) (g := gName 8) (tt := tYes) (te := tBM0 K "list" rPop (tVar 3)) (by rfl) sc_renamed_expression.nd (pi_tup (pe_slice sl_tupA (pv 4) (po_some pe_int) po_none)) (blkOk_by (N := ["expression", "names", "waiting", "made", "one", "is_ready", "word", "part", "_"]) (sc := defScope s_renamed_expression) (by decide +kernel)) (fun _ _ _ _ _ => pg_name (i := 8) sc_renamed_expression.nd rfl (Or.inl rfl)) (fun _ _ _ _ _ => pts_nil) (fun _ _ _ _ _ => (pe_bm0 PySem.F.plainAttrs_list PySem.F.slot_list_pop PySem.F.type_list_pop mt_pop (pv 3)))) pa_nil))) pa_nil)))))))))))
    (pss_one (ps_ret (pe_ix ix_list (pv 3) pe_int (fun _ _ => rfl))))))), ?_⟩
  refine ⟨_, rfl, by show 2 ≤ sizeLine; decide, fun e0 ne0 => ⟨by show 1 ≤ sizeLine; decide, fun L nL => ?_⟩⟩
  refine ⟨Nat.zero_le _, fun M nM => ?_⟩
  have k1 := same_new (o := .tup [v, .bl false]) ne0
  have k2 := same_new (o := .lst [.ref e0]) nL
  have k3 := same_new (o := .lst []) nM
  have k0 := (k1.trans k2).trans k3
  have hL : H L = none := k1.free nL
  have hM : H M = none := (k1.trans k2).free nM
  have nLM : L ≠ M := ne_of_none upd_same nM
  refine ⟨fun m σ H' => ∃ (st : List (Tr × Bool)) (md : List Tr) (vs ms : List V) (y4 y5 y6 y7 y8 : Option V), σ = [some v, some (.ref p), some (.ref L), some (.ref M), y4, y5, y6, y7, y8] ∧ Same H H' ∧ H' L = some (.lst vs) ∧ H' M = some (.lst ms) ∧
    Paired (wrel K H') st vs ∧ IsTs K H' md ms ∧ exec f st.reverse md.reverse = [ren f e] ∧ okS ps c st.reverse md.length ∧ m = wtS st ∧ md.length + wtS st ≤ 2 * e.size, ?_, ?_⟩
  · refine ⟨_, [(e, false)], [], [.ref e0], [], _, _, _, _, _, rfl, k0, k3 _ _ upd_same, upd_same, .cons ⟨e0, v, rfl, SqT.of (k3 _ _ (k2 _ _ upd_same)), hv.tk (TK.same k0)⟩ .nil, IsTs.nil, rfl, ⟨hg, rfl⟩, rfl, by simp [wtS, wtE]⟩
  rintro m σ H1 ⟨st, md, vs, ms, y4, y5, y6, y7, y8, rfl, s1, eL, eM, pr, hmd, hex, hok, rfl, hwt⟩
  have lst := paired_len pr
  have lmd := hmd.length
  refine ⟨_, rfl, L, vs, rfl, .inl (SqL.of eL), _, _, rfl, rfl, _, rfl, ?_⟩
  refine ite2 (fun cc => ?_) (fun cc => ?_)
  · have c' := of_decide_eq_true cc
    obtain ⟨st', pl, vs', vl, rfl, rfl, pr', te, x, rfl, hel, hx⟩ := paired_last pr (by omega)
    have ewt : wtS (st' ++ [pl]) = wtS st' + wtE pl := by rw [wtS_app]; simp [wtS]
    refine ⟨fun σ' H' => ∃ (st : List (Tr × Bool)) (md2 : List Tr) (vs ms : List V) (y4 y5 y6 y7 y8 : Option V), σ' = [some v, some (.ref p), some (.ref L), some (.ref M), y4, y5, y6, y7, y8] ∧ Same H H' ∧ H' L = some (.lst vs) ∧ H' M = some (.lst ms) ∧
      Paired (wrel K H') st vs ∧ IsTs K H' md2 ms ∧ exec f st.reverse md2.reverse = [ren f e] ∧ okS ps c st.reverse md2.length ∧ wtS st < wtS (st' ++ [pl]) ∧ md2.length + wtS st ≤ 2 * e.size, ?_, ?_⟩
    · rintro σ' H' ⟨st2, md2, vs2, ms2, z4, z5, z6, z7, z8, rfl, a1, a2, a3, a4, a5, a6, a7, a8, a9⟩
      exact ⟨_, a8, st2, md2, vs2, ms2, z4, z5, z6, z7, z8, rfl, a1, a2, a3, a4, a5, a6, a7, rfl, a9⟩
    refine ⟨_, rfl, .inl ⟨rfl, _, SqL.of eL⟩, L, _, .ref te, rfl, rfl, eL, last_of _ _, ?_⟩
    rw [List.dropLast_concat]
    have tk1 : TK K H1 (upd H1 L (.lst vs')) := TK.put (mut_lst eL)
    have s2 : Same H (upd H1 L (.lst vs')) := fun b o e => by rw [upd_ne (ne_of_none e hL)]; exact s1 b o e
    have eL2 : (upd H1 L (.lst vs')) L = some (.lst vs') := upd_same
    have eM2 : (upd H1 L (.lst vs')) M = some (.lst ms) := by rw [upd_ne nLM.symm]; exact eM
    have pr2 := paired_mono (fun _ _ => wrel_tk tk1) pr'
    have hel2 := tk1 _ _ hel
    have hx2 := hx.tk tk1
    have hmd2 := hmd.tk tk1
    generalize (upd H1 L (.lst vs')) = H2 at s2 eL2 eM2 pr2 hel2 hx2 hmd2 ⊢
    refine ⟨te, _, rfl, hel2, rfl, _, _, rfl, _, _, rfl, rfl, ?_⟩
    have erev : (st' ++ [pl]).reverse = pl :: st'.reverse := by simp
    rw [erev] at hex hok
    have lp2 := paired_len pr2
    have lws := wtS_len st'
    have wp := wtE_pos pl
    -- a made one is kept
    have keep : ∀ (t : Tr), pl = (t, false) → ren f t = t → ∀ (y5 : Option V), _ := fun t et er y5 => (show ∃ (st : List (Tr × Bool)) (md2 : List Tr) (vs ms' : List V) (z4 z5 z6 z7 z8 : Option V), [some v, some (.ref p), some (.ref L), some (.ref M), some x, y5, y6, y7, y8] = [some v, some (.ref p), some (.ref L), some (.ref M), z4, z5, z6, z7, z8] ∧ Same H (upd H2 M (.lst (ms ++ [x]))) ∧ (upd H2 M (.lst (ms ++ [x]))) L = some (.lst vs) ∧ (upd H2 M (.lst (ms ++ [x]))) M = some (.lst ms') ∧
      Paired (wrel K (upd H2 M (.lst (ms ++ [x])))) st vs ∧ IsTs K (upd H2 M (.lst (ms ++ [x]))) md2 ms' ∧ exec f st.reverse md2.reverse = [ren f e] ∧ okS ps c st.reverse md2.length ∧ wtS st < wtS (st' ++ [pl]) ∧ md2.length + wtS st ≤ 2 * e.size from by
        have tk3 : TK K H2 (upd H2 M (.lst (ms ++ [x]))) := TK.put (mut_lst eM2)
        subst et
        refine ⟨st', md ++ [t], vs', ms ++ [x], _, _, _, _, _, rfl, fun b o e => by rw [upd_ne (ne_of_none e hM)]; exact s2 b o e, by rw [upd_ne nLM]; exact eL2, upd_same, paired_mono (fun _ _ => wrel_tk tk3) pr2, (hmd2.snoc hx2).tk tk3, ?_, ?_, by omega, by rw [List.length_append, List.length_singleton]; omega⟩
        · rw [List.reverse_append]
          simp only [exec] at hex
          rw [er] at hex; exact hex
        · rw [List.length_append, List.length_singleton]; exact hok.2)
    have l3 : vs'.length ≤ 1000000 := by rw [← lp2]; omega
    have lm3 : ms.length ≤ 1000000 := by omega
    obtain ⟨t, b⟩ := pl
    have shape : (∃ s, t = .w s ∧ b = false) ∨ ∃ h args, t = .l (.w h :: args) := by
      cases t with
      | w s => cases b with
        | false => exact .inl ⟨s, rfl, rfl⟩
        | true => obtain ⟨h, args, e, _⟩ := hok; cases e
      | l ts =>
        refine .inr ?_
        cases b with
        | true => obtain ⟨h, args, e, _⟩ := hok; exact ⟨h, args, e⟩
        | false =>
          have g := hok.1
          cases ts with
          | nil => simp [goodE] at g
          | cons x args => cases x with
            | l _ => simp [goodE] at g
            | w h => exact ⟨h, args, rfl⟩
    dsimp only
    rcases shape with ⟨s, rfl, rfl⟩ | ⟨h, args, rfl⟩
    · obtain rfl := isT_w.mp hx2
      refine ⟨_, rfl, _, _, _, _, true, rfl, .ty "str", tyX_str, kty k_ss, true, rfl, ?_⟩
      exact ⟨_, rfl, .inl ⟨rfl, _, SqL.of eM2⟩, _, rfl, M, _, _, rfl, rfl, eM2, szl (by omega), keep _ rfl rfl _⟩
    obtain ⟨a, us, rfl, ha, hus⟩ := isT_l.mp hx2
    obtain ⟨u, r, rfl, i0, ir⟩ := isTs_cons.mp hus
    obtain rfl := isT_w.mp i0
    have lr := ir.length
    refine ⟨_, rfl, _, _, _, _, false, rfl, .ty "str", tyX_tup ha, kty k_ts, false, rfl, ?_⟩
    refine ⟨_, rfl, a, _, 0, _, rfl, rfl, ha, atI_of (by decide) rfl, rfl, _, rfl, ?_⟩
    have hl1 : (1 : Nat) ≤ (Tr.w h :: args).length := by simp
    by_cases hq : h = "quote"
    · rw [decide_eq_true (show V.str h = V.str "quote" by rw [hq])]
      cases b with
      | true => obtain ⟨h', args', e, nq, _⟩ := hok; cases e; exact absurd hq nq
      | false =>
        exact ⟨_, rfl, .inl ⟨rfl, _, SqL.of eM2⟩, _, rfl, M, _, _, rfl, rfl, eM2, szl (by omega), keep _ rfl (by simp only [ren]; rw [if_pos hq]) _⟩
    rw [decide_eq_false (show ¬ V.str h = V.str "quote" by intro e; injection e with e; exact hq e)]
    cases b with
    | false =>
      have hg0 := hok.1
      simp only [goodE, Bool.and_eq_true, decide_eq_false hq, Bool.false_or, decide_eq_true_eq] at hg0
      have nHL : H2 L ≠ none := by rw [eL2]; simp
      refine ⟨_, rfl, false, rfl, ?_⟩
      -- waiting.append((one, True))
      refine ⟨_, rfl, .inl ⟨rfl, _, SqL.of eL2⟩, _, rfl, by show 2 ≤ sizeLine; decide, fun g ng => ?_⟩
      have sg := same_new (o := .tup [.ref a, .bl true]) ng
      have eLg := sg _ _ eL2
      refine ⟨L, _, _, rfl, rfl, eLg, szl (by omega), ?_⟩
      have tg : TK K H2 (upd (upd H2 g (.tup [.ref a, .bl true])) L (.lst (vs' ++ [.ref g]))) := (TK.new ng).trans (TK.put (mut_lst eLg))
      have s4 : Same H (upd (upd H2 g (.tup [.ref a, .bl true])) L (.lst (vs' ++ [.ref g]))) := fun b o e => by rw [upd_ne (ne_of_none e hL)]; exact (s2.trans sg) b o e
      have eL4 : (upd (upd H2 g (.tup [.ref a, .bl true])) L (.lst (vs' ++ [.ref g]))) L = some (.lst (vs' ++ [.ref g])) := upd_same
      have eM4 : (upd (upd H2 g (.tup [.ref a, .bl true])) L (.lst (vs' ++ [.ref g]))) M = some (.lst ms) := by rw [upd_ne nLM.symm]; exact sg _ _ eM2
      have eg4 : (upd (upd H2 g (.tup [.ref a, .bl true])) L (.lst (vs' ++ [.ref g]))) g = some (.tup [.ref a, .bl true]) := by rw [upd_ne (ne_of_none eL2 ng).symm, upd_same]
      generalize (upd (upd H2 g (.tup [.ref a, .bl true])) L (.lst (vs' ++ [.ref g]))) = H4 at tg s4 eL4 eM4 eg4 ⊢
      have hx4 := hx2.tk tg
      have pr4 : Paired (wrel K H4) (st' ++ [(.l (.w h :: args), true)]) (vs' ++ [.ref g]) := paired_snoc (paired_mono (fun _ _ => wrel_tk tg) pr2) ⟨g, .ref a, rfl, SqT.of eg4, hx4⟩
      have hmd4 := hmd2.tk tg
      -- waiting.extend(..)
      refine ⟨_, rfl, .inl ⟨rfl, _, SqL.of eL4⟩, _, rfl, _, rfl, ?_⟩
      dsimp only [tNoPart]
      refine slA (lo := some ((1 : Nat) : Int)) hx4 fun v5 H5 s5 i5 => ?_
      rw [cutT_drop hl1] at i5
      simp only [List.drop_succ_cons, List.drop_zero] at i5
      obtain ⟨a5, us5, rfl, ha5, hus5⟩ := isT_l.mp i5
      have l5 := hus5.length
      refine ⟨a5, rfl, ⟨_, ha5⟩, fun D nD => ?_⟩
      refine lc_tup (K := K) (a := a5) (xs := us5) (fun i H' => ∃ ds : List V, Same H5 H' ∧ H' D = some (.lst ds) ∧ Paired (wrel K H') ((args.take i).map fun t => (t, false)) ds)
        ⟨[], same_new nD, upd_same, .nil⟩ (fun i H' _ h => let ⟨_, z, _⟩ := h; TK.same z _ _ ha5) (fun i x H6 hx h => ?_) (fun H6 h => ?_)
      · obtain ⟨ds, s6, eD, prd⟩ := h
        obtain ⟨t, gt, ht⟩ := hus5.tree hx
        have ld := paired_len prd
        rw [List.length_map, List.length_take] at ld
        have lsz := Tr.length_le_sizes args
        simp only [wtE, Tr.size, Tr.sizes] at ewt
        refine ⟨rfl, _, rfl, by show 2 ≤ sizeLine; decide, fun j nj => ?_⟩
        have sj := same_new (o := .tup [x, .bl false]) nj
        have eDj := sj _ _ eD
        refine ⟨_, eDj, szl (by omega), ds ++ [.ref j], fun b o e => ?_, upd_same, ?_⟩
        · rw [upd_ne (ne_of_none e nD)]; exact sj _ _ (s6 b o e)
        · have tkj : TK K H6 (upd (upd H6 j (.tup [x, .bl false])) D (.lst (ds ++ [.ref j]))) := (TK.new nj).trans (TK.put (mut_lst eDj))
          rw [List.take_add_one, gt, List.map_append]
          refine paired_snoc (paired_mono (fun _ _ => wrel_tk tkj) prd) ⟨j, x, rfl, SqT.of ?_, (ht.tk (TK.same s6)).tk tkj⟩
          rw [upd_ne (ne_of_none eD nj).symm, upd_same]
      · obtain ⟨ds, s6, eD, prd⟩ := h
        rw [l5, List.take_length] at prd
        have ld := paired_len prd
        rw [List.length_map] at ld
        have lsz := Tr.length_le_sizes args
        simp only [wtE, Tr.size, Tr.sizes] at ewt
        have eL6 := s6 _ _ (s5 _ _ eL4)
        have s56 := s5.trans s6
        refine ⟨L, D, _, ds, rfl, rfl, eL6, eD, OG.sz (by rw [List.length_append, List.length_singleton]; omega), ?_⟩
        have tk7 : TK K H6 (upd H6 L (.lst (vs' ++ [.ref g] ++ ds))) := TK.put (mut_lst eL6)
        have tk47 := (TK.same (K := K) s56).trans tk7
        refine ⟨st' ++ [(.l (.w h :: args), true)] ++ args.map (fun t => (t, false)), md, _, ms, _, _, _, _, _, rfl, fun b o e => by rw [upd_ne (ne_of_none e hL)]; exact (s4.trans s56) b o e, upd_same, by rw [upd_ne nLM.symm]; exact s56 _ _ eM4, paired_app (paired_mono (fun _ _ => wrel_tk tk47) pr4) (paired_mono (fun _ _ => wrel_tk tk7) prd), hmd4.tk tk47, ?_, ?_, ?_, ?_⟩
        · rw [List.reverse_append, List.reverse_append, exec_push]
          simp only [List.reverse_cons, List.reverse_nil, List.nil_append, List.singleton_append, exec]
          rw [show (args.map (ren f) ++ md.reverse).take args.length = args.map (ren f) by rw [List.take_left' (List.length_map _)], show (args.map (ren f) ++ md.reverse).drop args.length = md.reverse by rw [List.drop_left' (List.length_map _)]]
          simp only [exec] at hex
          rw [ren_call hq] at hex; exact hex
        · rw [List.reverse_append, List.reverse_append]
          refine okS_push ps c args _ _ hg0.2 ?_
          simp only [List.reverse_cons, List.reverse_nil, List.nil_append, List.singleton_append]
          exact ⟨h, args, rfl, hq, by rw [hg0.1]; rfl, by omega, by rw [Nat.add_sub_cancel]; exact hok.2⟩
        · rw [ewt, wtS_app, wtS_app, wtS_args]; simp only [wtS, wtE]; omega
        · rw [wtS_app, wtS_app, wtS_args]; simp only [wtS, wtE]; omega
    | true =>
      obtain ⟨h', args', e', nq, hlk, hle, hok2⟩ := hok
      cases e'
      refine ⟨_, rfl, true, rfl, ?_⟩
      have sp := T.k_SPECIAL.sqT H2
      refine ⟨_, rfl, a, _, 0, _, rfl, rfl, ha, atI_of (by decide) rfl, T.a_SPECIAL, _, rfl, .inr sp, rfl, flat_strs _, ?_⟩
      dsimp only
      rw [show (if false then !inV (.str h) ((["quote", "if", "same", "word", "head", "tail", "join"] : List Str).map V.str) else inV (.str h) ((["quote", "if", "same", "word", "head", "tail", "join"] : List Str).map V.str)) = special h from by rw [if_neg (by decide), inV_strs, spec_in]]
      refine ⟨_, rfl, ?_⟩
      have hnv : special h = false → DGet H2 p (V.str h) (some (.str (f h))) := fun e => by
        have := DGet.k (k := .inr h) (s2 _ _ ep)
        rw [hn h hlk e] at this
        exact this
      refine ite2 (fun hs => ?_) (fun hs => ?_)
      · refine ⟨_, rfl, a, _, 0, _, rfl, rfl, ha, atI_of (by decide) rfl, ?_⟩
        generalize e1 : V.str h = vw
        have evw : vw = .str (nwH f h) := by rw [← e1]; unfold nwH; rw [if_pos hs]
        have mk := fun (g : Addr) (ng : H2 g = none) => (same_new (o := .tup [vw]) ng)
        refine ⟨_, rfl, .inl ⟨rfl, _, SqL.of eM2⟩, _, rfl, by show 1 ≤ sizeLine; decide, fun g ng => ⟨_, rfl, _, rfl, ?_⟩⟩
        have sg := mk g ng
        have ig : IsT K (upd H2 g (.tup [vw])) (.l [.w (nwH f h)]) (.ref g) := IsT.tup (SqT.of upd_same) (IsTs.one (by rw [evw]; exact IsT.str))
        have hxg := hx2.tk (TK.same (K := K) sg)
        have eMg := sg _ _ eM2
        have eLg := sg _ _ eL2
        have s4 := s2.trans sg
        have prg := paired_mono (fun _ _ => wrel_tk (TK.same (K := K) sg)) pr2
        have hmg := hmd2.tk (TK.same (K := K) sg)
        generalize (upd H2 g (.tup [vw])) = H4 at sg ig hxg eMg eLg s4 prg hmg ⊢
        dsimp only [tNoPart]
        refine slA (lo := some ((1 : Nat) : Int)) hxg fun v5 H5 s5 i5 => ?_
        rw [cutT_drop hl1] at i5
        simp only [List.drop_succ_cons, List.drop_zero] at i5
        obtain ⟨a5, us5, rfl, ha5, hus5⟩ := isT_l.mp i5
        have l5 := hus5.length
        have eM5 := s5 _ _ eMg
        have eL5 := s5 _ _ eLg
        refine ⟨a5, rfl, ⟨_, ha5⟩, fun D nD => ?_⟩
        have nDM : D ≠ M := (ne_of_none eM5 nD).symm
        have nDL : D ≠ L := (ne_of_none eL5 nD).symm
        have hD : H D = none := (s4.trans s5).free nD
        refine lc_tup (K := K) (a := a5) (xs := us5) (fun i H' => ∃ (md1 pd : List Tr) (ms1 ds : List V), Same H H' ∧ TK K H5 H' ∧ H' L = some (.lst vs') ∧ H' M = some (.lst ms1) ∧ H' D = some (.lst ds) ∧ IsTs K H' md1 ms1 ∧ IsTs K H' pd ds ∧ md.reverse = pd ++ md1.reverse ∧ pd.length = i)
          ⟨md, [], ms, [], (s4.trans s5).trans (same_new nD), TK.new nD, (same_new nD) _ _ eL5, (same_new nD) _ _ eM5, upd_same, (hmg.tk (TK.same s5)).tk (TK.new nD), IsTs.nil, by simp, rfl⟩ (fun i H' _ h => let ⟨_, _, _, _, _, z, _⟩ := h; z _ _ ha5) (fun i x H6 hx h => ?_) (fun H6 h => ?_)
        · obtain ⟨md1, pd, ms1, ds, k6, t6, eL6, eM6, eD6, im1, ipd, erv, lpd⟩ := h
          have hi : i < us5.length := (List.getElem?_eq_some_iff.mp hx).1
          have lm := congrArg List.length erv
          rw [List.length_reverse, List.length_append, List.length_reverse] at lm
          have lm1 := im1.length
          have lds := ipd.length
          have lsz := Tr.length_le_sizes args
          obtain ⟨md2, tl, ms2, vl, rfl, rfl, im2, il⟩ := isTs_last im1 (by omega)
          refine ⟨rfl, _, rfl, .inl ⟨rfl, _, SqL.of eM6⟩, M, _, vl, rfl, rfl, eM6, last_of _ _, ?_⟩
          rw [List.dropLast_concat]
          have tm : TK K H6 (upd H6 M (.lst ms2)) := TK.put (mut_lst eM6)
          have eD7 : (upd H6 M (.lst ms2)) D = some (.lst ds) := by rw [upd_ne nDM]; exact eD6
          have td : TK K (upd H6 M (.lst ms2)) (upd (upd H6 M (.lst ms2)) D (.lst (ds ++ [vl]))) := TK.put (mut_lst eD7)
          refine ⟨ds, eD7, szl (by omega), md2, pd ++ [tl], ms2, ds ++ [vl], fun b o e => ?_, (t6.trans tm).trans td, ?_, ?_, upd_same, (im2.tk tm).tk td, ((ipd.tk tm).tk td).snoc ((il.tk tm).tk td), ?_, by simp [lpd]⟩
          · rw [upd_ne (ne_of_none e hD), upd_ne (ne_of_none e hM)]; exact k6 b o e
          · rw [upd_ne nDL.symm, upd_ne nLM]; exact eL6
          · rw [upd_ne nDM.symm, upd_same]
          · rw [erv, List.reverse_append]; simp
        · obtain ⟨md1, pd, ms1, ds, k6, t6, eL6, eM6, eD6, im1, ipd, erv, lpd⟩ := h
          rw [l5] at lpd
          have t46 := (TK.same (K := K) s5).trans t6
          have lm := congrArg List.length erv
          rw [List.length_reverse, List.length_append, List.length_reverse] at lm
          have lm1 := im1.length
          have lsz := Tr.length_le_sizes args
          refine ⟨D, ds, rfl, .inl ⟨SqL.of eD6, fun l nl => ?_⟩⟩
          refine newT (Q := fun v Hv => rCatA K (.ref g) v Hv _) ipd (fun v7 H7 s7 i7 => ?_) l nl
          refine catA ((ig.tk t46).tk (TK.same s7)) i7 (by simp only [List.length_singleton]; omega) fun v8 H8 s8 i8 => ?_
          have s78 := s7.trans s8
          have eM8 := s78 _ _ eM6
          refine ⟨M, ms1, v8, rfl, rfl, eM8, szl (by omega), ?_⟩
          have tf : TK K H8 (upd H8 M (.lst (ms1 ++ [v8]))) := TK.put (mut_lst eM8)
          have t68 := (TK.same (K := K) s78).trans tf
          refine ⟨st', md1 ++ [.l (.w (nwH f h) :: pd)], vs', ms1 ++ [v8], _, _, _, _, _, rfl, fun b o e => by rw [upd_ne (ne_of_none e hM)]; exact s78 _ _ (k6 b o e), by rw [upd_ne nLM]; exact s78 _ _ eL6, upd_same, paired_mono (fun _ _ => wrel_tk (t46.trans t68)) prg, (im1.tk t68).snoc (i8.tk tf), ?_, ?_, by omega, by rw [List.length_append, List.length_singleton]; omega⟩
          · rw [List.reverse_append]
            simp only [exec] at hex
            rw [erv, List.take_left' lpd, List.drop_left' lpd] at hex
            exact hex
          · rw [List.length_append, List.length_singleton]
            rw [show md.length - args.length = md1.length by omega] at hok2
            exact hok2
      · refine ⟨_, rfl, _, rfl, a, _, 0, _, rfl, rfl, ha, atI_of (by decide) rfl, p, _, rfl, hnv (by simpa using hs), ?_⟩
        generalize e1 : V.str (f h) = vw
        have evw : vw = .str (nwH f h) := by rw [← e1]; unfold nwH; rw [if_neg hs]
        have mk := fun (g : Addr) (ng : H2 g = none) => (same_new (o := .tup [vw]) ng)
        refine ⟨_, rfl, .inl ⟨rfl, _, SqL.of eM2⟩, _, rfl, by show 1 ≤ sizeLine; decide, fun g ng => ⟨_, rfl, _, rfl, ?_⟩⟩
        have sg := mk g ng
        have ig : IsT K (upd H2 g (.tup [vw])) (.l [.w (nwH f h)]) (.ref g) := IsT.tup (SqT.of upd_same) (IsTs.one (by rw [evw]; exact IsT.str))
        have hxg := hx2.tk (TK.same (K := K) sg)
        have eMg := sg _ _ eM2
        have eLg := sg _ _ eL2
        have s4 := s2.trans sg
        have prg := paired_mono (fun _ _ => wrel_tk (TK.same (K := K) sg)) pr2
        have hmg := hmd2.tk (TK.same (K := K) sg)
        generalize (upd H2 g (.tup [vw])) = H4 at sg ig hxg eMg eLg s4 prg hmg ⊢
        dsimp only [tNoPart]
        refine slA (lo := some ((1 : Nat) : Int)) hxg fun v5 H5 s5 i5 => ?_
        rw [cutT_drop hl1] at i5
        simp only [List.drop_succ_cons, List.drop_zero] at i5
        obtain ⟨a5, us5, rfl, ha5, hus5⟩ := isT_l.mp i5
        have l5 := hus5.length
        have eM5 := s5 _ _ eMg
        have eL5 := s5 _ _ eLg
        refine ⟨a5, rfl, ⟨_, ha5⟩, fun D nD => ?_⟩
        have nDM : D ≠ M := (ne_of_none eM5 nD).symm
        have nDL : D ≠ L := (ne_of_none eL5 nD).symm
        have hD : H D = none := (s4.trans s5).free nD
        refine lc_tup (K := K) (a := a5) (xs := us5) (fun i H' => ∃ (md1 pd : List Tr) (ms1 ds : List V), Same H H' ∧ TK K H5 H' ∧ H' L = some (.lst vs') ∧ H' M = some (.lst ms1) ∧ H' D = some (.lst ds) ∧ IsTs K H' md1 ms1 ∧ IsTs K H' pd ds ∧ md.reverse = pd ++ md1.reverse ∧ pd.length = i)
          ⟨md, [], ms, [], (s4.trans s5).trans (same_new nD), TK.new nD, (same_new nD) _ _ eL5, (same_new nD) _ _ eM5, upd_same, (hmg.tk (TK.same s5)).tk (TK.new nD), IsTs.nil, by simp, rfl⟩ (fun i H' _ h => let ⟨_, _, _, _, _, z, _⟩ := h; z _ _ ha5) (fun i x H6 hx h => ?_) (fun H6 h => ?_)
        · obtain ⟨md1, pd, ms1, ds, k6, t6, eL6, eM6, eD6, im1, ipd, erv, lpd⟩ := h
          have hi : i < us5.length := (List.getElem?_eq_some_iff.mp hx).1
          have lm := congrArg List.length erv
          rw [List.length_reverse, List.length_append, List.length_reverse] at lm
          have lm1 := im1.length
          have lds := ipd.length
          have lsz := Tr.length_le_sizes args
          obtain ⟨md2, tl, ms2, vl, rfl, rfl, im2, il⟩ := isTs_last im1 (by omega)
          refine ⟨rfl, _, rfl, .inl ⟨rfl, _, SqL.of eM6⟩, M, _, vl, rfl, rfl, eM6, last_of _ _, ?_⟩
          rw [List.dropLast_concat]
          have tm : TK K H6 (upd H6 M (.lst ms2)) := TK.put (mut_lst eM6)
          have eD7 : (upd H6 M (.lst ms2)) D = some (.lst ds) := by rw [upd_ne nDM]; exact eD6
          have td : TK K (upd H6 M (.lst ms2)) (upd (upd H6 M (.lst ms2)) D (.lst (ds ++ [vl]))) := TK.put (mut_lst eD7)
          refine ⟨ds, eD7, szl (by omega), md2, pd ++ [tl], ms2, ds ++ [vl], fun b o e => ?_, (t6.trans tm).trans td, ?_, ?_, upd_same, (im2.tk tm).tk td, ((ipd.tk tm).tk td).snoc ((il.tk tm).tk td), ?_, by simp [lpd]⟩
          · rw [upd_ne (ne_of_none e hD), upd_ne (ne_of_none e hM)]; exact k6 b o e
          · rw [upd_ne nDL.symm, upd_ne nLM]; exact eL6
          · rw [upd_ne nDM.symm, upd_same]
          · rw [erv, List.reverse_append]; simp
        · obtain ⟨md1, pd, ms1, ds, k6, t6, eL6, eM6, eD6, im1, ipd, erv, lpd⟩ := h
          rw [l5] at lpd
          have t46 := (TK.same (K := K) s5).trans t6
          have lm := congrArg List.length erv
          rw [List.length_reverse, List.length_append, List.length_reverse] at lm
          have lm1 := im1.length
          have lsz := Tr.length_le_sizes args
          refine ⟨D, ds, rfl, .inl ⟨SqL.of eD6, fun l nl => ?_⟩⟩
          refine newT (Q := fun v Hv => rCatA K (.ref g) v Hv _) ipd (fun v7 H7 s7 i7 => ?_) l nl
          refine catA ((ig.tk t46).tk (TK.same s7)) i7 (by simp only [List.length_singleton]; omega) fun v8 H8 s8 i8 => ?_
          have s78 := s7.trans s8
          have eM8 := s78 _ _ eM6
          refine ⟨M, ms1, v8, rfl, rfl, eM8, szl (by omega), ?_⟩
          have tf : TK K H8 (upd H8 M (.lst (ms1 ++ [v8]))) := TK.put (mut_lst eM8)
          have t68 := (TK.same (K := K) s78).trans tf
          refine ⟨st', md1 ++ [.l (.w (nwH f h) :: pd)], vs', ms1 ++ [v8], _, _, _, _, _, rfl, fun b o e => by rw [upd_ne (ne_of_none e hM)]; exact s78 _ _ (k6 b o e), by rw [upd_ne nLM]; exact s78 _ _ eL6, upd_same, paired_mono (fun _ _ => wrel_tk (t46.trans t68)) prg, (im1.tk t68).snoc (i8.tk tf), ?_, ?_, by omega, by rw [List.length_append, List.length_singleton]; omega⟩
          · rw [List.reverse_append]
            simp only [exec] at hex
            rw [erv, List.take_left' lpd, List.drop_left' lpd] at hex
            exact hex
          · rw [List.length_append, List.length_singleton]
            rw [show md.length - args.length = md1.length by omega] at hok2
            exact hok2
  · have c' : ¬ (0 : Int) < ((vs.length : Nat) : Int) := fun z => cc (decide_eq_true z)
    have e0 : st = [] := List.eq_nil_of_length_eq_zero (by omega)
    subst e0
    have h1 : md.length = 1 := hok
    obtain ⟨t, rfl⟩ : ∃ t, md = [t] := List.length_eq_one_iff.mp h1
    obtain ⟨u, r, rfl, iu, ir⟩ := isTs_cons.mp hmd
    have et : t = ren f e := by simpa [exec] using hex
    subst et
    exact ⟨_, rfl, M, _, 0, u, rfl, rfl, SqL.of eM, atI_of (by decide) rfl, q u H1 s1 iu⟩

/-! ### renamed -/
def nOf : Tr → Str
  | .l (.w n :: _) => n
  | _ => ""
def ixS (h : Str) : List Str → Nat
  | [] => 0
  | s :: r => if s = h then 0 else ixS h r + 1
def rnF (st0 : Nat) (prog : List Tr) (h : Str) : Str := mn (st0 + ixS h (prog.map nOf))
def rnT (f : Str → Str) : Tr → Tr
  | .l [.w n, ps, b] => .l [.w (f n), ps, ren f b]
  | t => t
def rnP (st0 : Nat) (prog : List Tr) : List Tr := prog.map (rnT (rnF st0 prog))
def nmD (st0 : Nat) : List Str → List (Key × V)
  | [] => []
  | s :: r => (.inr s, .str (mn st0)) :: nmD (st0 + 1) r
theorem nmD_snoc (s : Str) : ∀ (l : List Str) (st0 : Nat), nmD st0 (l ++ [s]) = nmD st0 l ++ [(.inr s, .str (mn (st0 + l.length)))]
  | [], st0 => rfl
  | x :: l, st0 => by
    have e : st0 + 1 + l.length = st0 + (x :: l).length := by rw [List.length_cons]; omega
    simp only [List.cons_append, nmD, nmD_snoc s l (st0 + 1), e]
theorem nmD_len : ∀ (l : List Str) (st0 : Nat), (nmD st0 l).length = l.length
  | [], _ => rfl
  | x :: l, st0 => by simp [nmD, nmD_len l]
theorem nmD_val (h : Str) : ∀ (l : List Str) (st0 : Nat), valV (nmD st0 l) (.inr h) = if h ∈ l then some (.str (mn (st0 + ixS h l))) else none
  | [], st0 => by simp [nmD, valV_nil]
  | x :: l, st0 => by
    have ih := nmD_val h l (st0 + 1)
    by_cases e : x = h
    · subst e
      rw [show nmD st0 (x :: l) = (.inr x, .str (mn st0)) :: nmD (st0 + 1) l from rfl, valV_pos rfl]
      simp [ixS]
    · rw [show nmD st0 (x :: l) = (.inr x, .str (mn st0)) :: nmD (st0 + 1) l from rfl, valV_neg (by intro z; exact e (Sum.inr.inj z)), ih]
      have e2 : st0 + 1 + ixS h l = st0 + (ixS h l + 1) := by omega
      by_cases m : h ∈ l
      · rw [if_pos m, if_pos (List.mem_cons_of_mem _ m)]
        simp only [ixS]; rw [if_neg e, e2]
      · rw [if_neg m, if_neg (fun z => by rcases List.mem_cons.mp z with q | q; exact e q.symm; exact m q)]
theorem ixS_lt {h : Str} : ∀ {l : List Str}, h ∈ l → ixS h l < l.length
  | x :: l, m => by
    simp only [ixS]
    split
    · simp
    · rename_i e
      have := ixS_lt (l := l) (by rcases List.mem_cons.mp m with q | q; exact absurd q.symm e; exact q)
      simp; omega
theorem goodFs_nodup {c : List (Str × Int)} {m : Int} : ∀ {fs : List Tr} {seen : List Str}, goodFs c m seen fs = true → (fs.map nOf).Nodup ∧ ∀ n ∈ fs.map nOf, n ∉ seen
  | [], _, _ => ⟨by simp, fun n h => by simp at h⟩
  | f :: fs, seen, h => by
    obtain ⟨n, ps, b, rfl, c1, _, _, c4⟩ := goodFs_cons h
    obtain ⟨i1, i2⟩ := goodFs_nodup c4
    have nin : n ∉ seen := fun z => by rw [decide_eq_true z] at c1; simp [nameFits] at c1
    refine ⟨?_, fun x hx => ?_⟩
    · rw [List.map_cons, List.nodup_cons]
      exact ⟨fun z => i2 _ z (by simp [nOf]), i1⟩
    · rw [List.map_cons] at hx
      rcases List.mem_cons.mp hx with q | q
      · rw [q]; exact nin
      · exact fun z => i2 x q (by simp [z])
theorem goodFs_mem {c : List (Str × Int)} {m : Int} : ∀ {fs : List Tr} {seen : List Str}, goodFs c m seen fs = true → ∀ t ∈ fs, ∃ n ps b, t = .l [.w n, .l ps, b] ∧ parsFit ps = true ∧ goodE (ps.map wOf) c b = true ∧ special n = false
  | [], _, _, t, ht => absurd ht List.not_mem_nil
  | f :: fs, seen, h, t, ht => by
    obtain ⟨n, ps, b, rfl, c1, c2, c3, c4⟩ := goodFs_cons h
    rcases List.mem_cons.mp ht with q | q
    · refine ⟨n, ps, b, q, c2, c3, ?_⟩
      unfold nameFits at c1
      cases hs : (OR.lkI spW n).isSome with
      | true => rw [hs] at c1; simp at c1
      | false => exact hs
    · exact goodFs_mem c4 t q
theorem lkI_app (h : Str) (b : List (Str × Int)) : ∀ a : List (Str × Int), OR.lkI (a ++ b) h = match OR.lkI a h with | some i => some i | none => OR.lkI b h
  | [] => rfl
  | x :: a => by
    have ih := lkI_app h b a
    unfold OR.lkI at ih ⊢
    rw [List.cons_append, List.find?_cons, List.find?_cons]
    by_cases e : x.1 = h
    · rw [decide_eq_true e]; rfl
    · rw [decide_eq_false e]; exact ih
theorem foldC_names (h : Str) : ∀ (fs : List Tr) (acc : List (Str × Int)), (OR.lkI (fs.foldl addC acc) h).isSome = true → (OR.lkI acc h).isSome = true ∨ h ∈ fs.map nOf
  | [], acc, e => .inl e
  | t :: fs, acc, e => by
    rcases foldC_names h fs (addC acc t) e with z | z
    · unfold addC at z
      split at z
      · rename_i n ps b
        split at z
        · exact .inl z
        · rw [lkI_app] at z
          cases ha : OR.lkI acc h with
          | some i => exact .inl rfl
          | none =>
            rw [ha] at z
            refine .inr ?_
            have : n = h := by
              by_cases q : n = h
              · exact q
              · simp [OR.lkI, q] at z
            simp [nOf, this]
      · exact .inl z
    · exact .inr (by rw [List.map_cons]; exact List.mem_cons_of_mem _ z)
theorem cnt_names {prog : List Tr} {h : Str} (e : (OR.lkI (cnt prog) h).isSome = true) (ns : special h = false) : h ∈ prog.map nOf := by
  rcases foldC_names h prog spW e with z | z
  · unfold special at ns; rw [ns] at z; cases z
  · exact z
def spRen (K : PySem.W.Frag) : Sp := fun vs H Q _ => ∃ (prog : List Tr) (v : V) (st0 : Nat), vs = [v, .int st0] ∧ IsT K H (.l prog) v ∧ GoodP prog ∧ Tr.sizes prog ≤ 300000 ∧ st0 + prog.length ≤ 40 ∧ ∀ (v' : V) (H' : Hp), Same H H' → IsT K H' (.l (rnP st0 prog)) v' → Q v' H'
theorem ok_renamed {P : Program} {w : World} {K : PySem.W.Frag} {mg : Str → Option Value} {base : Heap} (T : Top K mg) {k : Nat} (G_check_program : FnOk P w K mg base CX0 4 T.a_check_program T.d_check_program ["value"] (spCheck K))
    (G_made_name : FnOk P w K mg base CX0 1 T.a_made_name T.d_made_name ["number"] spMade) (G_renamed_expression : FnOk P w K mg base CX0 1 T.a_renamed_expression T.d_renamed_expression ["expression", "names"] (spRenE K)) :
    FnOk P w K mg base CX0 (k + 5) T.a_renamed T.d_renamed ["program", "start"] (spRen K) := by
  refine T.F_renamed.ok sc_renamed (fun vs H Q E h => ?_) (fun cdv A outer s H vs Q E hr h => ?_)
  · obtain ⟨prog, v, st, rfl, _⟩ := h
    rfl
  obtain ⟨prog, v, st0, rfl, hv, G, hsz, hst, q⟩ := h
  refine ⟨_, (pss_cons (ps_expr (pe_call G_check_program (hr.mono (by omega)) rfl T.m_check_program T.F_check_program.kp T.b_check_program .nil pass0 (pa_cons (pv 0) pa_nil)))
    (pss_cons (ps_set (i := 2) sc_renamed.nd rfl (Or.inr rfl) pe_dnewK)
    (pss_cons (ps_for PassesOwn.never rfl (OR.pi_enT rfl T.n_enumerate (pa_cons (pv 0) pa_nil)) (pg_tup (by rfl) (pgs_cons (pg_name (i := 3) sc_renamed.nd rfl (Or.inl rfl)) (pgs_cons (pg_tup (by rfl) (pgs_cons (pg_name (i := 4) sc_renamed.nd rfl (Or.inl rfl)) (pgs_cons (pg_name (i := 5) sc_renamed.nd rfl (Or.inl rfl)) (pgs_cons (pg_name (i := 6) sc_renamed.nd rfl (Or.inl rfl)) pgs_nil)))) pgs_nil))) (pss_one (ps_dput (hu_of hr) (pv 2) (pv 4) (pe_call G_made_name (hr.mono (by omega)) rfl T.m_made_name T.F_made_name.kp T.b_made_name .nil pass0 (pa_cons (pe_op op_add (pv 1) (pv 3)) pa_nil)) rfl)))
    (pss_one (ps_ret (pe_callTy call_tuple_of rfl T.n_tuple bo_tuple (pa_cons (pe_lc (own := [("name", 4), ("parameters", 5), ("body", 6)]) (g := (gTup K 3 (gCons (gName 4) (gCons (gName 5) (gCons (gName 6) gNil))))) (tt := tYes) (by rfl) sc_renamed.nd (pi_tup (pv 0)) (blkOk_by (N := ["program", "start", "names", "number", "name", "parameters", "body"]) (sc := defScope s_renamed) (by decide +kernel)) (fun _ _ _ _ _ => pg_tup (by rfl) (pgs_cons (pg_name (i := 4) sc_renamed.nd rfl (Or.inl rfl)) (pgs_cons (pg_name (i := 5) sc_renamed.nd rfl (Or.inl rfl)) (pgs_cons (pg_name (i := 6) sc_renamed.nd rfl (Or.inl rfl)) pgs_nil)))) (fun _ _ _ _ _ => pts_nil) (fun _ _ _ _ _ => (pe_tup (pa_cons (pe_dget (hu_of hr) (pv 2) (pv 4) (fun _ _ => rfl)) (pa_cons (pv 5) (pa_cons (pe_call G_renamed_expression (hr.mono (by omega)) rfl T.m_renamed_expression T.F_renamed_expression.kp T.b_renamed_expression .nil pass0 (pa_cons (pv 6) (pa_cons (pv 2) pa_nil))) pa_nil)))))) pa_nil))))))), ?_⟩
  refine ⟨_, rfl, prog, v, rfl, hv, G, fun H1 s1 => ?_⟩
  refine fun d nd => ?_
  have hd : H d = none := s1.free nd
  have s2 : Same H (upd H1 d (.dK [])) := s1.trans (same_new nd)
  obtain ⟨a, us, rfl, ha, hus⟩ := isT_l.mp hv
  have hl := hus.length
  obtain ⟨nd1, _⟩ := goodFs_nodup G.good
  have gm := goodFs_mem G.good
  refine ⟨_, rfl, a, us, rfl, TK.same s2 _ _ ha, ?_⟩
  refine OR.for_en (K := K) (a := a) (xs := us) (fun i σ H' => ∃ (y3 y4 y5 y6 : Option V), σ = [some (.ref a), some (.int st0), some (.ref d), y3, y4, y5, y6] ∧ Same H H' ∧ H' d = some (.dK (nmD st0 ((prog.map nOf).take i))))
    ⟨_, _, _, _, rfl, s2, upd_same⟩ (fun i σ H' _ h => let ⟨_, _, _, _, _, z, _⟩ := h; TK.same z _ _ ha) (fun i x Tt σ H2 hx h nT => ?_) (fun σ H2 h => ?_)
  · obtain ⟨y3, y4, y5, y6, rfl, k2, ed⟩ := h
    obtain ⟨t, gt, ht⟩ := hus.tree hx
    have hi : i < prog.length := (List.getElem?_eq_some_iff.mp gt).1
    obtain ⟨n, ps, b, rfl, _⟩ := gm t (List.mem_of_getElem? gt)
    have k3 := same_new (o := .tup [.int (i : Nat), x]) nT
    have eT : (upd H2 Tt (.tup [.int (i : Nat), x])) Tt = some (.tup [.int (i : Nat), x]) := upd_same
    have ed3 := k3 _ _ ed
    have k4 := k2.trans k3
    generalize (upd H2 Tt (.tup [.int (i : Nat), x])) = H3 at k4 eT ed3 ⊢
    clear k3
    obtain ⟨af, usf, rfl, haf, husf⟩ := isT_l.mp (ht.tk (TK.same (K := K) k4))
    obtain ⟨u0, r0, rfl, i0, ir0⟩ := isTs_cons.mp husf
    obtain ⟨u1, r1, rfl, i1, ir1⟩ := isTs_cons.mp ir0
    obtain ⟨u2, r2, rfl, i2, ir2⟩ := isTs_cons.mp ir1
    obtain rfl := isTs_nil.mp ir2
    obtain rfl := isT_w.mp i0
    refine ⟨Tt, _, rfl, SqT.of eT, rfl, _, _, rfl, _, _, rfl, af, _, rfl, haf, rfl, _, _, rfl, _, _, rfl, _, _, rfl, rfl, rfl, ?_⟩
    have lnm := nmD_len ((prog.map nOf).take i) st0
    rw [List.length_take, List.length_map] at lnm
    have gn : (prog.map nOf)[i]? = some n := by rw [List.getElem?_map, gt]; rfl
    have nin : n ∉ (prog.map nOf).take i := fun z => by
      have hi2 : i < (prog.map nOf).length := by rw [List.length_map]; exact hi
      have e1 : prog.map nOf = (prog.map nOf).take i ++ n :: (prog.map nOf).drop (i + 1) := by
        conv => lhs; rw [← List.take_append_drop i (prog.map nOf)]
        rw [List.drop_eq_getElem_cons hi2, (List.getElem?_eq_some_iff.mp gn).2]
      rw [e1] at nd1
      exact (List.nodup_append.mp nd1).2.2 n z n (by simp) rfl
    refine ⟨_, rfl, _, rfl, _, _, rfl, rfl, st0 + i, rfl, by omega, ?_⟩
    refine ⟨_, rfl, _, rfl, d, _, rfl, DPut.k (k := .inr n) ed3 (by rw [lnm]; exact szl (by omega)), ?_⟩
    refine ⟨_, _, _, _, rfl, fun b o e => by rw [upd_ne (ne_of_none e hd)]; exact k4 b o e, ?_⟩
    rw [upd_same, putK_new _ (by rw [nmD_val, if_neg nin]), List.take_add_one, gn]
    rw [show (some n).toList = [n] from rfl, nmD_snoc]
    rw [List.length_take, List.length_map, Nat.min_eq_left (Nat.le_of_lt hi)]
  · obtain ⟨y3, y4, y5, y6, rfl, k2, ed⟩ := h
    rw [hl, show (prog.map nOf).take prog.length = prog.map nOf from List.take_of_length_le (by rw [List.length_map]; exact Nat.le_refl _)] at ed
    have hv2 := hv.tk (TK.same (K := K) k2)
    have ha2 := TK.same (K := K) k2 _ _ ha
    have hus2 := hus.tk (TK.same (K := K) k2)
    refine ⟨_, rfl, a, rfl, ⟨_, ha2⟩, fun D nD => ?_⟩
    refine lc_tup (K := K) (a := a) (xs := us) (fun i H' => ∃ ys : List V, Same H2 H' ∧ H' D = some (.lst ys) ∧ IsTs K H' ((prog.take i).map (rnT (rnF st0 prog))) ys)
      ⟨[], same_new nD, upd_same, IsTs.nil⟩ (fun i H' _ h => let ⟨_, z, _⟩ := h; TK.same z _ _ ha2) (fun i x H3 hx h => ?_) (fun H3 h => ?_)
    · obtain ⟨ys, s3, eD, iy⟩ := h
      obtain ⟨t, gt, ht⟩ := hus2.tree hx
      have tm := List.mem_of_getElem? gt
      obtain ⟨n, ps, b, rfl, pf, gb, sp⟩ := gm t tm
      have hi : i < prog.length := (List.getElem?_eq_some_iff.mp gt).1
      obtain ⟨af, usf, rfl, haf, husf⟩ := isT_l.mp (ht.tk (TK.same (K := K) s3))
      obtain ⟨u0, r0, rfl, i0, ir0⟩ := isTs_cons.mp husf
      obtain ⟨u1, r1, rfl, i1, ir1⟩ := isTs_cons.mp ir0
      obtain ⟨u2, r2, rfl, i2, ir2⟩ := isTs_cons.mp ir1
      obtain rfl := isTs_nil.mp ir2
      obtain rfl := isT_w.mp i0
      have ed3 := s3 _ _ ed
      have hnm : ∀ h, h ∈ prog.map nOf → valV (nmD st0 (prog.map nOf)) (.inr h) = some (.str (rnF st0 prog h)) := fun h hm => by rw [nmD_val, if_pos hm]; rfl
      have nm : n ∈ prog.map nOf := List.mem_map.mpr ⟨_, tm, rfl⟩
      have szt := Tr.size_mem tm
      simp only [Tr.size, Tr.sizes] at szt
      have ly := iy.length
      rw [List.length_map, List.length_take] at ly
      refine ⟨af, _, rfl, haf, rfl, _, _, rfl, _, _, rfl, _, _, rfl, rfl, rfl, ?_⟩
      refine ⟨_, rfl, _, rfl, d, .str (rnF st0 prog n), rfl, by rw [← hnm n nm]; exact DGet.k (k := .inr n) ed3, _, rfl, _, rfl, _, rfl, b, u2, d, _, ps.map wOf, cnt prog, rnF st0 prog, rfl, i2, ed3, gb, by omega, fun h e ns => hnm h (cnt_names e ns), fun v4 H4 s4 i4 => ⟨by show 3 ≤ sizeLine; decide, fun j nj => ?_⟩⟩
      have sj := s4.trans (same_new (o := .tup [.str (rnF st0 prog n), u1, v4]) nj)
      have eDj := sj _ _ eD
      refine ⟨_, eDj, szl (by omega), ys ++ [.ref j], fun b o e => ?_, upd_same, ?_⟩
      · rw [upd_ne (ne_of_none e nD)]; exact sj _ _ (s3 b o e)
      · have t5 : TK K H4 (upd H4 j (.tup [.str (rnF st0 prog n), u1, v4])) := TK.new nj
        have t6 : TK K (upd H4 j (.tup [.str (rnF st0 prog n), u1, v4])) (upd (upd H4 j (.tup [.str (rnF st0 prog n), u1, v4])) D (.lst (ys ++ [.ref j]))) := TK.put (mut_lst eDj)
        have nDj : j ≠ D := fun z => by rw [z] at nj; rw [s4 _ _ eD] at nj; cases nj
        rw [List.take_add_one, gt, List.map_append]
        refine (iy.tk ((TK.same sj).trans t6)).snoc (IsT.tup (SqT.of (by rw [upd_ne nDj]; exact upd_same)) (IsTs.cons IsT.str (IsTs.cons (i1.tk ((TK.same sj).trans t6)) (IsTs.one (i4.tk (t5.trans t6))))))
    · obtain ⟨ys, s3, eD, iy⟩ := h
      rw [hl, List.take_length] at iy
      exact ⟨D, ys, rfl, .inl ⟨SqL.of eD, newT iy fun v' H' s4 iv => q v' H' (k2.trans (s3.trans s4)) iv⟩⟩

/-! ### joined, with_main, fill_function, fill -/
def joinP : List Tr → List (List Tr) → List Tr
  | acc, [] => acc
  | acc, p :: ps => joinP (acc ++ rnP acc.length p) ps
def mainsP : Nat → List (List Tr) → List Str
  | _, [] => []
  | n, p :: ps => mn n :: mainsP (n + p.length) ps
theorem rnP_len (n : Nat) (p : List Tr) : (rnP n p).length = p.length := by simp [rnP]
theorem mainsP_snoc (p : List Tr) : ∀ (ps : List (List Tr)) (n : Nat), mainsP n (ps ++ [p]) = mainsP n ps ++ [mn (n + (ps.map List.length).sum)]
  | [], n => by simp [mainsP]
  | x :: ps, n => by
    simp only [List.cons_append, mainsP, mainsP_snoc p ps, List.map_cons, List.sum_cons]
    rw [Nat.add_assoc]
theorem joinP_snoc (p : List Tr) : ∀ (ps : List (List Tr)) (acc : List Tr), joinP acc (ps ++ [p]) = joinP acc ps ++ rnP (joinP acc ps).length p
  | [], acc => rfl
  | x :: ps, acc => by simp only [List.cons_append, joinP, joinP_snoc p ps]
theorem joinP_len : ∀ (ps : List (List Tr)) (acc : List Tr), (joinP acc ps).length = acc.length + (ps.map List.length).sum
  | [], acc => by simp [joinP]
  | x :: ps, acc => by
    simp only [joinP, joinP_len ps, List.length_append, rnP_len, List.map_cons, List.sum_cons]; omega
theorem sqL_same {K : PySem.W.Frag} {H H' : Hp} {a : Addr} {xs : List V} (s : Same H H') : SqL K H a xs → SqL K H' a xs
  | .inl (.inl e) => .inl (.inl (s _ _ e))
  | .inl (.inr ⟨o, e⟩) => .inl (.inr ⟨o, s _ _ e⟩)
  | .inr e => .inr e
def spJoined (K : PySem.W.Frag) : Sp := fun vs H Q _ => ∃ (ps : List (List Tr)) (pvs : List V) (l : Addr), vs = [.ref l] ∧ SqL K H l pvs ∧ IsTs K H (ps.map .l) pvs ∧ (∀ p ∈ ps, GoodP p ∧ Tr.sizes p ≤ 300000) ∧ (ps.map List.length).sum ≤ 40 ∧ ps.length ≤ 40 ∧
  ∀ (r m : Addr) (vf : V) (H' : Hp), Same H H' → H m = none → H' r = some (.tup [vf, .ref m]) → H' m = some (.lst ((mainsP 0 ps).map V.str)) → IsT K H' (.l (joinP [] ps)) vf → Q (.ref r) H'
theorem ok_joined {P : Program} {w : World} {K : PySem.W.Frag} {mg : Str → Option Value} {base : Heap} (T : Top K mg) {k : Nat} (G_made_name : FnOk P w K mg base CX0 1 T.a_made_name T.d_made_name ["number"] spMade)
    (G_renamed : FnOk P w K mg base CX0 5 T.a_renamed T.d_renamed ["program", "start"] (spRen K)) : FnOk P w K mg base CX0 (k + 6) T.a_joined T.d_joined ["programs"] (spJoined K) := by
  refine T.F_joined.ok sc_joined (fun vs H Q E h => ?_) (fun cdv A outer s H vs Q E hr h => ?_)
  · obtain ⟨ps, pvs, l, rfl, _⟩ := h
    rfl
  obtain ⟨ps, pvs, l, rfl, hs, hps, hg, hsum, hlen, q⟩ := h
  refine ⟨_, (pss_cons (ps_set (i := 1) sc_joined.nd rfl (Or.inl rfl) (pe_tup pa_nil))
    (pss_cons (ps_set (i := 2) sc_joined.nd rfl (Or.inl rfl) (pe_lst pa_nil))
    (pss_cons (ps_for PassesOwn.never rfl (pi_list (pv 0)) (pg_name (i := 3) sc_joined.nd rfl (Or.inl rfl)) (pss_cons (ps_expr (pe_bm PySem.F.plainAttrs_list PySem.F.slot_list_append PySem.F.type_list_append mt_append (pv 2) (pa_cons (pe_call G_made_name (hr.mono (by omega)) rfl T.m_made_name T.F_made_name.kp T.b_made_name .nil pass0 (pa_cons (pe_callB call_len_seq rfl T.n_len bo_len (pa_cons (pv 1) pa_nil)) pa_nil)) pa_nil)))
    (pss_one (ps_set (i := 1) sc_joined.nd rfl (Or.inl rfl) (pe_op op_catA (pv 1) (pe_call G_renamed (hr.mono (by omega)) rfl T.m_renamed T.F_renamed.kp T.b_renamed .nil pass0 (pa_cons (pv 3) (pa_cons (pe_callB call_len_seq rfl T.n_len bo_len (pa_cons (pv 1) pa_nil)) pa_nil))))))))
    (pss_one (ps_ret (pe_tup (pa_cons (pv 1) (pa_cons (pv 2) pa_nil)))))))), ?_⟩
  refine ⟨Nat.zero_le _, fun e ne => ?_⟩
  have s0 := same_new (o := .tup []) ne
  have ie : IsT K (upd H e (.tup [])) (.l []) (.ref e) := IsT.tup (SqT.of upd_same) IsTs.nil
  generalize (upd H e (.tup [])) = H1 at s0 ie ⊢
  refine ⟨Nat.zero_le _, fun m nm => ?_⟩
  have hm : H m = none := s0.free nm
  have s1 := s0.trans (same_new (o := .lst []) nm)
  have ie1 := ie.tk (TK.new (K := K) (o := .lst []) nm)
  have em : (upd H1 m (.lst [])) m = some (.lst []) := upd_same
  generalize (upd H1 m (.lst [])) = H2 at s1 ie1 em ⊢
  have lps := hps.length
  rw [List.length_map] at lps
  have sl : ∀ H', Same H H' → SqL K H' l pvs := fun H' s => sqL_same s hs
  refine ⟨_, rfl, l, rfl, ⟨_, sl _ s1⟩, ?_⟩
  refine for_list (K := K) (a := l) (xs := pvs) (fun i σ H' => ∃ (vf : V) (y : Option V), σ = [some (.ref l), some vf, some (.ref m), y] ∧ Same H H' ∧ H' m = some (.lst ((mainsP 0 (ps.take i)).map V.str)) ∧ IsT K H' (.l (joinP [] (ps.take i))) vf)
    ⟨_, _, rfl, s1, em, ie1⟩ (fun i σ H' _ h => let ⟨_, _, _, z, _⟩ := h; sl _ z) (fun i x σ H3 hx h => ?_) (fun σ H3 h => ?_)
  · obtain ⟨vf, y, rfl, s3, em3, if3⟩ := h
    obtain ⟨t, gt, ht⟩ := hps.tree hx
    rw [List.getElem?_map] at gt
    obtain ⟨p, gp, rfl⟩ : ∃ p, ps[i]? = some p ∧ Tr.l p = t := by
      cases h : ps[i]? with
      | none => rw [h] at gt; cases gt
      | some p => rw [h] at gt; exact ⟨p, rfl, Option.some.inj gt⟩
    have pm := List.mem_of_getElem? gp
    have hi : i < ps.length := (List.getElem?_eq_some_iff.mp gp).1
    have etk : ps.take (i + 1) = ps.take i ++ [p] := by rw [List.take_add_one, gp]; rfl
    have lj := joinP_len (ps.take i) []
    simp only [List.length_nil, Nat.zero_add] at lj
    have lsum : ((ps.take i).map List.length).sum + p.length ≤ 40 := by
      have : ((ps.take (i + 1)).map List.length).sum ≤ (ps.map List.length).sum := by
        conv => rhs; rw [← List.take_append_drop (i + 1) ps]
        rw [List.map_append, List.sum_append]; omega
      rw [etk, List.map_append, List.sum_append, List.map_cons, List.map_nil, List.sum_cons, List.sum_nil] at this
      omega
    obtain ⟨af, usf, rfl, haf, husf⟩ := isT_l.mp if3
    have lf := husf.length
    have lmn : (mainsP 0 (ps.take i)).length = i := by
      have : ∀ (qs : List (List Tr)) (n : Nat), (mainsP n qs).length = qs.length := by
        intro qs
        induction qs with
        | nil => intro n; rfl
        | cons a r ih => intro n; simp [mainsP, ih]
      rw [this, List.length_take]; omega
    refine ⟨_, rfl, .inl ⟨rfl, _, SqL.of em3⟩, _, rfl, af, usf, rfl, .inr haf, usf.length, rfl, by omega, m, _, _, rfl, rfl, em3, szl (by rw [List.length_map]; omega), ?_⟩
    have em4 : (upd H3 m (.lst ((mainsP 0 (ps.take i)).map V.str ++ [.str (mn usf.length)]))) m = some (.lst ((mainsP 0 (ps.take (i + 1))).map V.str)) := by
      rw [upd_same, etk, mainsP_snoc, List.map_append, lf, lj, Nat.zero_add]; rfl
    have s4 : Same H (upd H3 m (.lst ((mainsP 0 (ps.take i)).map V.str ++ [.str (mn usf.length)]))) := fun b o e => by rw [upd_ne (ne_of_none e hm)]; exact s3 b o e
    have tk4 : TK K H3 (upd H3 m (.lst ((mainsP 0 (ps.take i)).map V.str ++ [.str (mn usf.length)]))) := TK.put (mut_lst em3)
    have haf4 := tk4 _ _ haf
    have if4 := if3.tk tk4
    generalize (upd H3 m (.lst ((mainsP 0 (ps.take i)).map V.str ++ [.str (mn usf.length)]))) = H4 at em4 s4 haf4 if4 ⊢
    refine ⟨_, rfl, _, rfl, _, rfl, af, usf, rfl, .inr haf4, p, x, usf.length, rfl, ht.tk (TK.same s4), (hg p pm).1, (hg p pm).2, by omega, fun v5 H5 s5 i5 => ?_⟩
    refine catA (if4.tk (TK.same s5)) i5 (by rw [rnP_len]; omega) fun v6 H6 s6 i6 => ?_
    refine ⟨v6, _, rfl, (s4.trans s5).trans s6, s6 _ _ (s5 _ _ em4), ?_⟩
    rw [etk, joinP_snoc, ← lf]; exact i6
  · obtain ⟨vf, y, rfl, s3, em3, if3⟩ := h
    rw [lps, List.take_length] at em3 if3
    refine ⟨_, rfl, _, rfl, by show 2 ≤ sizeLine; decide, fun r nr => ?_⟩
    have sr := same_new (o := .tup [vf, .ref m]) nr
    exact q r m vf _ (s3.trans sr) hm upd_same (sr _ _ em3) (if3.tk (TK.same sr))
def spMain (K : PySem.W.Frag) : Sp := fun vs H Q _ => ∃ (fs : List Tr) (tp tb : Tr) (vf vp vb : V), vs = [vf, vp, vb] ∧ IsT K H (.l fs) vf ∧ IsT K H tp vp ∧ IsT K H tb vb ∧ fs.length ≤ 40 ∧
  ∀ (v' : V) (H' : Hp), Same H H' → IsT K H' (.l (.l [.w (mn fs.length), tp, tb] :: fs)) v' → Q v' H'
theorem ok_with_main {P : Program} {w : World} {K : PySem.W.Frag} {mg : Str → Option Value} {base : Heap} (T : Top K mg) {k : Nat} (G_made_name : FnOk P w K mg base CX0 1 T.a_made_name T.d_made_name ["number"] spMade) : FnOk P w K mg base CX0 (k + 2) T.a_with_main T.d_with_main ["functions", "parameters", "body"] (spMain K) := by
  refine T.F_with_main.ok sc_with_main (fun vs H Q E h => ?_) (fun cdv A outer s H vs Q E hr h => ?_)
  · obtain ⟨fs, tp, tb, vf, vp, vb, rfl, _⟩ := h
    rfl
  obtain ⟨fs, tp, tb, vf, vp, vb, rfl, h1, h2, h3, hz, q⟩ := h
  refine ⟨_, (pss_one (ps_ret (pe_op op_catA (pe_tup (pa_cons (pe_tup (pa_cons (pe_call G_made_name (hr.mono (by omega)) rfl T.m_made_name T.F_made_name.kp T.b_made_name .nil pass0 (pa_cons (pe_callB call_len_seq rfl T.n_len bo_len (pa_cons (pv 0) pa_nil)) pa_nil)) (pa_cons (pv 1) (pa_cons (pv 2) pa_nil)))) pa_nil)) (pv 0)))), ?_⟩
  obtain ⟨a, us, rfl, ha, hus⟩ := isT_l.mp h1
  have hl := hus.length
  refine ⟨_, rfl, a, us, rfl, .inr ha, us.length, rfl, by omega, _, rfl, _, rfl, by show 3 ≤ sizeLine; decide, fun b nb => ⟨by show 1 ≤ sizeLine; decide, fun c nc => ?_⟩⟩
  have sb := same_new (o := .tup [.str (mn us.length), vp, vb]) nb
  have sc := same_new (o := .tup [.ref b]) nc
  have eb := sc _ _ upd_same
  have ec : (upd (upd H b (.tup [.str (mn us.length), vp, vb])) c (.tup [.ref b])) c = some (.tup [.ref b]) := upd_same
  have ss := sb.trans sc
  generalize (upd (upd H b (.tup [.str (mn us.length), vp, vb])) c (.tup [.ref b])) = H2 at eb ec ss ⊢
  have ib : IsT K H2 (.l [.w (mn us.length), tp, tb]) (.ref b) := IsT.tup (SqT.of eb) (IsTs.cons IsT.str (IsTs.cons (h2.tk (TK.same ss)) (IsTs.one (h3.tk (TK.same ss)))))
  refine ⟨_, rfl, catA (as := [.l [.w (mn us.length), tp, tb]]) (IsT.tup (SqT.of ec) (IsTs.one ib)) (h1.tk (TK.same ss)) (by simp only [List.length_singleton]; omega) fun v3 H3 s3 i3 => q v3 H3 (ss.trans s3) (by rw [← hl]; exact i3)⟩
def ffT (main : Str) (number : Nat) (tv : Tr) (many : Nat) : Tr := .l [.w (mn number), .l (xs many), .l (.w main :: .l [.w "quote", tv] :: xs many)]
def spFf (K : PySem.W.Frag) : Sp := fun vs H Q _ => ∃ (main : Str) (number many : Nat) (tv : Tr) (v : V), vs = [.str main, .int number, v, .int many] ∧ IsT K H tv v ∧ number ≤ 40 ∧ many ≤ 40 ∧
  ∀ (v' : V) (H' : Hp), Same H H' → IsT K H' (ffT main number tv many) v' → Q v' H'
theorem ok_fill_function {P : Program} {w : World} {K : PySem.W.Frag} {mg : Str → Option Value} {base : Heap} (T : Top K mg) {k : Nat} (G_made_name : FnOk P w K mg base CX0 1 T.a_made_name T.d_made_name ["number"] spMade) (G_made_parameters : FnOk P w K mg base CX0 1 T.a_made_parameters T.d_made_parameters ["many"] (spXs K)) :
    FnOk P w K mg base CX0 (k + 2) T.a_fill_function T.d_fill_function ["main", "number", "value", "many"] (spFf K) := by
  refine T.F_fill_function.ok sc_fill_function (fun vs H Q E h => ?_) (fun cdv A outer s H vs Q E hr h => ?_)
  · obtain ⟨main, number, many, tv, v, rfl, _⟩ := h
    rfl
  obtain ⟨main, number, many, tv, v, rfl, hv, hn, hm, q⟩ := h
  refine ⟨_, (pss_cons (ps_set (i := 4) sc_fill_function.nd rfl (Or.inl rfl) (pe_call G_made_parameters (hr.mono (by omega)) rfl T.m_made_parameters T.F_made_parameters.kp T.b_made_parameters .nil pass0 (pa_cons (pv 3) pa_nil)))
    (pss_one (ps_ret (pe_tup (pa_cons (pe_call G_made_name (hr.mono (by omega)) rfl T.m_made_name T.F_made_name.kp T.b_made_name .nil pass0 (pa_cons (pv 1) pa_nil)) (pa_cons (pv 4) (pa_cons (pe_op op_catA (pe_tup (pa_cons (pv 0) (pa_cons (pe_tup (pa_cons pe_str (pa_cons (pv 2) pa_nil))) pa_nil))) (pv 4)) pa_nil))))))), ?_⟩
  refine ⟨_, rfl, many, rfl, hm, fun vx H1 s1 ix => ?_⟩
  refine ⟨_, rfl, number, rfl, hn, _, rfl, _, rfl, _, rfl, by show 2 ≤ sizeLine; decide, fun b nb => ⟨by show 2 ≤ sizeLine; decide, fun c nc => ?_⟩⟩
  have sb := same_new (o := .tup [.str "quote", v]) nb
  have sc := same_new (o := .tup [.str main, .ref b]) nc
  have eb := sc _ _ upd_same
  have ec : (upd (upd H1 b (.tup [.str "quote", v])) c (.tup [.str main, .ref b])) c = some (.tup [.str main, .ref b]) := upd_same
  have ss := sb.trans sc
  generalize (upd (upd H1 b (.tup [.str "quote", v])) c (.tup [.str main, .ref b])) = H2 at eb ec ss ⊢
  have ib : IsT K H2 (.l [.w "quote", tv]) (.ref b) := IsT.tup (SqT.of eb) (IsTs.cons IsT.str (IsTs.one ((hv.tk (TK.same s1)).tk (TK.same ss))))
  have lx : (xs many).length = many := by simp [xs]
  refine ⟨_, rfl, catA (as := [.w main, .l [.w "quote", tv]]) (IsT.tup (SqT.of ec) (IsTs.cons IsT.str (IsTs.one ib))) (ix.tk (TK.same ss)) (by simp only [List.length_cons, List.length_nil]; omega) fun v3 H3 s3 i3 => ⟨by show 3 ≤ sizeLine; decide, fun g ng => ?_⟩⟩
  refine newT (ts := [.w (mn number), .l (xs many), .l (.w main :: .l [.w "quote", tv] :: xs many)]) (IsTs.cons IsT.str (IsTs.cons ((ix.tk (TK.same ss)).tk (TK.same s3)) (IsTs.one i3))) (fun v' H' s' i' => q v' H' ((s1.trans ss).trans (s3.trans s')) i') g ng
def fillP (prog : List Tr) (tv : Tr) : List Tr := ffT (nOf (prog.headD (.w ""))) prog.length tv (nPar prog - 1) :: prog
def spFill (K : PySem.W.Frag) : Sp := fun vs H Q _ => ∃ (prog : List Tr) (tv : Tr) (vp v : V), vs = [vp, v] ∧ IsT K H (.l prog) vp ∧ IsT K H tv v ∧ GoodP prog ∧ prog.length ≤ 40 ∧ 0 < nPar prog ∧ nPar prog ≤ 9 ∧
  ∀ (v' : V) (H' : Hp), Same H H' → IsT K H' (.l (fillP prog tv)) v' → Q v' H'
theorem ok_fill {P : Program} {w : World} {K : PySem.W.Frag} {mg : Str → Option Value} {base : Heap} (T : Top K mg) {k : Nat} (G_check_program : FnOk P w K mg base CX0 4 T.a_check_program T.d_check_program ["value"] (spCheck K)) (G_inputs_of : FnOk P w K mg base CX0 5 T.a_inputs_of T.d_inputs_of ["program"] (spInputs K))
    (G_fill_function : FnOk P w K mg base CX0 2 T.a_fill_function T.d_fill_function ["main", "number", "value", "many"] (spFf K)) : FnOk P w K mg base CX0 (k + 6) T.a_fill T.d_fill ["program", "value"] (spFill K) := by
  refine T.F_fill.ok sc_fill (fun vs H Q E h => ?_) (fun cdv A outer s H vs Q E hr h => ?_)
  · obtain ⟨prog, tv, vp, v, rfl, _⟩ := h
    rfl
  obtain ⟨prog, tv, vp, v, rfl, hp, hv, G, hl, n0, n9, q⟩ := h
  refine ⟨_, (pss_cons (ps_expr (pe_call G_check_program (hr.mono (by omega)) rfl T.m_check_program T.F_check_program.kp T.b_check_program .nil pass0 (pa_cons (pv 0) pa_nil)))
    (pss_cons (ps_set (i := 2) sc_fill.nd rfl (Or.inl rfl) (pe_call G_inputs_of (hr.mono (by omega)) rfl T.m_inputs_of T.F_inputs_of.kp T.b_inputs_of .nil pass0 (pa_cons (pv 0) pa_nil)))
    (pss_cons (ps_if (PW.pt (pw_or (pt_cmpR op_eq (pv 2) pe_int (nomark _)) (pw_or1 (pt_cmpR op_gt (pv 2) (pe_op op_add (pe_glob (v := .int 8) rfl T.c_MOST_INPUTS ⟨_, rfl⟩) pe_int) (nomark _))))) (pss_one ps_never) pss_nil)
    (pss_one (ps_ret (pe_op op_catA (pe_tup (pa_cons (pe_call G_fill_function (hr.mono (by omega)) rfl T.m_fill_function T.F_fill_function.kp T.b_fill_function .nil pass0 (pa_cons (pe_ix ix_tup (pe_ix ix_tup (pv 0) pe_int (fun _ _ => rfl)) pe_int (fun _ _ => rfl)) (pa_cons (pe_callB call_len_seq rfl T.n_len bo_len (pa_cons (pv 0) pa_nil)) (pa_cons (pv 1) (pa_cons (pe_op op_sub (pv 2) pe_int) pa_nil))))) pa_nil)) (pv 0))))))), ?_⟩
  refine ⟨_, rfl, prog, vp, rfl, hp, G, fun H1 s1 => ?_⟩
  refine ⟨_, rfl, prog, vp, rfl, hp.tk (TK.same s1), G, fun H2 s2 => ?_⟩
  have s12 := s1.trans s2
  have hp2 := hp.tk (TK.same (K := K) s12)
  have hv2 := hv.tk (TK.same (K := K) s12)
  refine ⟨_, rfl, rfl, _, rfl, ?_⟩
  rw [decide_eq_false (show ¬ V.int ((nPar prog : Nat) : Int) = V.int 0 by intro e; injection e with e; omega)]
  refine ⟨_, rfl, _, _, rfl, rfl, _, _, rfl, rfl, _, rfl, ?_⟩
  dsimp only
  rw [decide_eq_false (show ¬ (8 : Int) + 1 < ((nPar prog : Nat) : Int) by omega)]
  obtain ⟨n, ps, b, r, rfl, _⟩ := G.first
  obtain ⟨a, us, rfl, ha, hus⟩ := isT_l.mp hp2
  have hlu := hus.length
  obtain ⟨u, us', rfl, i0, _⟩ := isTs_cons.mp hus
  obtain ⟨af, usf, rfl, haf, husf⟩ := isT_l.mp i0
  obtain ⟨u0, r0, rfl, j0, ir0⟩ := isTs_cons.mp husf
  obtain rfl := isT_w.mp j0
  have em : ((nPar (.l [.w n, .l ps, b] :: r) : Nat) : Int) - 1 = ((nPar (.l [.w n, .l ps, b] :: r) - 1 : Nat) : Int) := by omega
  refine ⟨_, rfl, a, _, 0, _, rfl, rfl, ha, atI_of (by decide) rfl, af, _, 0, _, rfl, rfl, haf, atI_of (by decide) rfl, _, rfl, a, _, rfl, .inr ha, _, rfl, _, rfl, _, _, rfl, rfl, ?_⟩
  dsimp only
  rw [em]
  refine ⟨n, _, nPar (.l [.w n, .l ps, b] :: r) - 1, tv, v, rfl, hv2, by omega, by omega, fun v3 H3 s3 i3 => ⟨by show 1 ≤ sizeLine; decide, fun g ng => ?_⟩⟩
  have sg := same_new (o := .tup [v3]) ng
  refine ⟨_, rfl, catA (as := [ffT n ((V.ref af) :: us').length tv (nPar (.l [.w n, .l ps, b] :: r) - 1)]) (IsT.tup (SqT.of upd_same) (IsTs.one (i3.tk (TK.same sg)))) ((hp2.tk (TK.same s3)).tk (TK.same sg)) (by simp only [List.length_singleton]; omega) fun v4 H4 s4 i4 => ?_⟩
  refine q v4 H4 (((s12.trans s3).trans sg).trans s4) ?_
  unfold fillP
  rw [← hlu]; exact i4

/-! ### own.py -/
abbrev qT (t : Tr) : Tr := .l [.w "quote", t]
def listT : List Tr → Tr
  | [] => qT (.l [])
  | p :: r => .l [.w "join", p, listT r]
def spQuoted (K : PySem.W.Frag) : Sp := fun vs H Q _ => ∃ (t : Tr) (v : V), vs = [v] ∧ IsT K H t v ∧ ∀ (v' : V) (H' : Hp), Same H H' → IsT K H' (qT t) v' → Q v' H'
theorem ok_quoted {P : Program} {w : World} {K : PySem.W.Frag} {mg : Str → Option Value} {base : Heap} (T : Top K mg) {k : Nat} : FnOk P w K mg base CX0 (k + 1) T.a_quoted T.d_quoted ["value"] (spQuoted K) := by
  refine T.F_quoted.ok sc_quoted (fun vs H Q E h => ?_) (fun cdv A outer s H vs Q E hr h => ?_)
  · obtain ⟨t, v, rfl, _⟩ := h
    rfl
  obtain ⟨t, v, rfl, hv, q⟩ := h
  refine ⟨_, (pss_one (ps_ret (pe_tup (pa_cons pe_str (pa_cons (pv 0) pa_nil))))), ?_⟩
  refine ⟨_, rfl, by show 2 ≤ sizeLine; decide, fun p np => ?_⟩
  exact newT (ts := [.w "quote", t]) (IsTs.cons IsT.str (IsTs.one hv)) q p np
def spListed (K : PySem.W.Frag) : Sp := fun vs H Q _ => ∃ (ts : List Tr) (us : List V) (l : Addr), vs = [.ref l] ∧ SqL K H l us ∧ IsTs K H ts us ∧ ts.length ≤ 100000 ∧ ∀ (v' : V) (H' : Hp), Same H H' → IsT K H' (listT ts) v' → Q v' H'
theorem ok_listed {P : Program} {w : World} {K : PySem.W.Frag} {mg : Str → Option Value} {base : Heap} (T : Top K mg) {k : Nat} (G_quoted : FnOk P w K mg base CX0 1 T.a_quoted T.d_quoted ["value"] (spQuoted K)) : FnOk P w K mg base CX0 (k + 2) T.a_listed T.d_listed ["parts"] (spListed K) := by
  refine T.F_listed.ok sc_listed (fun vs H Q E h => ?_) (fun cdv A outer s H vs Q E hr h => ?_)
  · obtain ⟨ts, us, l, rfl, _⟩ := h
    rfl
  obtain ⟨ts, us, l, rfl, hs, hts, hz, q⟩ := h
  have hl := hts.length
  refine ⟨_, (pss_cons (ps_set (i := 1) sc_listed.nd rfl (Or.inl rfl) (pe_call G_quoted (hr.mono (by omega)) rfl T.m_quoted T.F_quoted.kp T.b_quoted .nil pass0 (pa_cons (pe_tup pa_nil) pa_nil)))
    (pss_cons (ps_for PassesOwn.never rfl (pi_reversed rfl T.n_reversed (pa_cons (pv 0) pa_nil)) (pg_name (i := 2) sc_listed.nd rfl (Or.inl rfl)) (pss_one (ps_set (i := 1) sc_listed.nd rfl (Or.inl rfl) (pe_tup (pa_cons pe_str (pa_cons (pv 2) (pa_cons (pv 1) pa_nil)))))))
    (pss_one (ps_ret (pv 1))))), ?_⟩
  refine ⟨Nat.zero_le _, fun e ne => ?_⟩
  have s0 := same_new (o := .tup []) ne
  refine ⟨.l [], _, rfl, IsT.tup (SqT.of upd_same) IsTs.nil, fun v1 H1 s1 i1 => ?_⟩
  have s2 := s0.trans s1
  refine ⟨_, rfl, l, us, rfl, sqL_same s2 hs, ?_⟩
  refine RT.for_Itv (K := K) (a := l) (xs := us) (fun i σ H' => ∃ (vf : V) (y : Option V), σ = [some (.ref l), some vf, y] ∧ Same H H' ∧ IsT K H' (listT (ts.drop (ts.length - i))) vf)
    ⟨v1, _, rfl, s2, by rw [Nat.sub_zero, List.drop_length]; exact i1⟩ (fun i σ H' h => let ⟨_, _, _, z, _⟩ := h; sqL_same z hs) (fun i x σ H3 hi hx h => ?_) (fun σ H3 h => ?_)
  · obtain ⟨vf, y, rfl, s3, i3⟩ := h
    obtain ⟨t, gt, ht⟩ := hts.tree hx
    have hi2 : us.length - 1 - i < ts.length := (List.getElem?_eq_some_iff.mp gt).1
    have edr : ts.drop (ts.length - (i + 1)) = t :: ts.drop (ts.length - i) := by
      rw [show ts.length - (i + 1) = us.length - 1 - i by omega, List.drop_eq_getElem_cons hi2, (List.getElem?_eq_some_iff.mp gt).2, show us.length - 1 - i + 1 = ts.length - i by omega]
    refine ⟨_, rfl, _, rfl, by show 3 ≤ sizeLine; decide, fun g ng => ?_⟩
    have sg := same_new (o := .tup [.str "join", x, vf]) ng
    refine ⟨.ref g, _, rfl, s3.trans sg, ?_⟩
    rw [edr]
    exact IsT.tup (SqT.of upd_same) (IsTs.cons IsT.str (IsTs.cons ((ht.tk (TK.same s3)).tk (TK.same sg)) (IsTs.one (i3.tk (TK.same sg)))))
  · obtain ⟨vf, y, rfl, s3, i3⟩ := h
    rw [hl, Nat.sub_self, List.drop_zero] at i3
    exact ⟨_, rfl, q vf H3 s3 i3⟩
def treeT (main : Str) (number many : Nat) : Tr :=
  .l [.w "join", listT [qT (.w (mn number)), qT (.l (xs many)), .l [.w "join", qT (.w main), .l [.w "join", listT [qT (.w "quote"), .w "s"], qT (.l (xs many))]]], .w "s"]
def spTree (K : PySem.W.Frag) : Sp := fun vs H Q _ => ∃ (main : Str) (number many : Nat), vs = [.str main, .int number, .int many] ∧ number ≤ 40 ∧ many ≤ 40 ∧ ∀ (v' : V) (H' : Hp), Same H H' → IsT K H' (treeT main number many) v' → Q v' H'
theorem ok_filled_tree {P : Program} {w : World} {K : PySem.W.Frag} {mg : Str → Option Value} {base : Heap} (T : Top K mg) {k : Nat} (G_quoted : FnOk P w K mg base CX0 1 T.a_quoted T.d_quoted ["value"] (spQuoted K)) (G_listed : FnOk P w K mg base CX0 2 T.a_listed T.d_listed ["parts"] (spListed K))
    (G_made_name : FnOk P w K mg base CX0 1 T.a_made_name T.d_made_name ["number"] spMade) (G_made_parameters : FnOk P w K mg base CX0 1 T.a_made_parameters T.d_made_parameters ["many"] (spXs K)) : FnOk P w K mg base CX0 (k + 3) T.a_filled_tree T.d_filled_tree ["main", "number", "many"] (spTree K) := by
  refine T.F_filled_tree.ok sc_filled_tree (fun vs H Q E h => ?_) (fun cdv A outer s H vs Q E hr h => ?_)
  · obtain ⟨main, number, many, rfl, _⟩ := h
    rfl
  obtain ⟨main, number, many, rfl, hn, hm, q⟩ := h
  refine ⟨_, (pss_cons (ps_set (i := 3) sc_filled_tree.nd rfl (Or.inl rfl) (pe_call G_made_parameters (hr.mono (by omega)) rfl T.m_made_parameters T.F_made_parameters.kp T.b_made_parameters .nil pass0 (pa_cons (pv 2) pa_nil)))
    (pss_cons (ps_set (i := 4) sc_filled_tree.nd rfl (Or.inl rfl) (pe_call G_listed (hr.mono (by omega)) rfl T.m_listed T.F_listed.kp T.b_listed .nil pass0 (pa_cons (pe_lst (pa_cons (pe_call G_quoted (hr.mono (by omega)) rfl T.m_quoted T.F_quoted.kp T.b_quoted .nil pass0 (pa_cons pe_str pa_nil)) (pa_cons pe_str pa_nil))) pa_nil)))
    (pss_cons (ps_set (i := 5) sc_filled_tree.nd rfl (Or.inl rfl) (pe_tup (pa_cons pe_str (pa_cons (pe_call G_quoted (hr.mono (by omega)) rfl T.m_quoted T.F_quoted.kp T.b_quoted .nil pass0 (pa_cons (pv 0) pa_nil)) (pa_cons (pe_tup (pa_cons pe_str (pa_cons (pv 4) (pa_cons (pe_call G_quoted (hr.mono (by omega)) rfl T.m_quoted T.F_quoted.kp T.b_quoted .nil pass0 (pa_cons (pv 3) pa_nil)) pa_nil)))) pa_nil)))))
    (pss_cons (ps_set (i := 6) sc_filled_tree.nd rfl (Or.inl rfl) (pe_call G_listed (hr.mono (by omega)) rfl T.m_listed T.F_listed.kp T.b_listed .nil pass0 (pa_cons (pe_lst (pa_cons (pe_call G_quoted (hr.mono (by omega)) rfl T.m_quoted T.F_quoted.kp T.b_quoted .nil pass0 (pa_cons (pe_call G_made_name (hr.mono (by omega)) rfl T.m_made_name T.F_made_name.kp T.b_made_name .nil pass0 (pa_cons (pv 1) pa_nil)) pa_nil)) (pa_cons (pe_call G_quoted (hr.mono (by omega)) rfl T.m_quoted T.F_quoted.kp T.b_quoted .nil pass0 (pa_cons (pv 3) pa_nil)) (pa_cons (pv 5) pa_nil)))) pa_nil)))
    (pss_one (ps_ret (pe_tup (pa_cons pe_str (pa_cons (pv 6) (pa_cons pe_str pa_nil)))))))))), ?_⟩
  refine ⟨_, rfl, many, rfl, hm, fun vx H1 s1 ix => ?_⟩
  -- value
  refine ⟨.w "quote", _, rfl, IsT.str, fun v2 H2 s2 i2 => ⟨by show 2 ≤ sizeLine; decide, fun L nL => ?_⟩⟩
  have sL := same_new (o := .lst [v2, .str "s"]) nL
  refine ⟨[qT (.w "quote"), .w "s"], _, L, rfl, SqL.of upd_same, IsTs.cons (i2.tk (TK.same sL)) (IsTs.one IsT.str), by decide, fun v3 H3 s3 i3 => ?_⟩
  have k3 := (s2.trans sL).trans s3
  have ix3 := ix.tk (TK.same (K := K) k3)
  -- body
  refine ⟨_, rfl, .w main, _, rfl, IsT.str, fun v4 H4 s4 i4 => ?_⟩
  refine ⟨_, rfl, _, rfl, .l (xs many), _, rfl, ix3.tk (TK.same s4), fun v5 H5 s5 i5 => ⟨by show 3 ≤ sizeLine; decide, fun g ng => ⟨by show 3 ≤ sizeLine; decide, fun g2 ng2 => ?_⟩⟩⟩
  have sg := same_new (o := .tup [.str "join", v3, v5]) ng
  have sg2 := same_new (o := .tup [.str "join", v4, .ref g]) ng2
  have eg := sg2 _ _ upd_same
  have eg2 : (upd (upd H5 g (.tup [.str "join", v3, v5])) g2 (.tup [.str "join", v4, .ref g])) g2 = some (.tup [.str "join", v4, .ref g]) := upd_same
  have kg := sg.trans sg2
  generalize (upd (upd H5 g (.tup [.str "join", v3, v5])) g2 (.tup [.str "join", v4, .ref g])) = H6 at eg eg2 kg ⊢
  have ig : IsT K H6 (.l [.w "join", listT [qT (.w "quote"), .w "s"], qT (.l (xs many))]) (.ref g) := IsT.tup (SqT.of eg) (IsTs.cons IsT.str (IsTs.cons (((i3.tk (TK.same s4)).tk (TK.same s5)).tk (TK.same kg)) (IsTs.one (i5.tk (TK.same kg)))))
  have ig2 : IsT K H6 (.l [.w "join", qT (.w main), .l [.w "join", listT [qT (.w "quote"), .w "s"], qT (.l (xs many))]]) (.ref g2) := IsT.tup (SqT.of eg2) (IsTs.cons IsT.str (IsTs.cons ((i4.tk (TK.same s5)).tk (TK.same kg)) (IsTs.one ig)))
  have ix6 := ((ix3.tk (TK.same (K := K) s4)).tk (TK.same s5)).tk (TK.same kg)
  have k6 := ((s1.trans k3).trans (s4.trans s5)).trans kg
  -- function
  refine ⟨_, rfl, number, rfl, hn, .w (mn number), _, rfl, IsT.str, fun v7 H7 s7 i7 => ?_⟩
  refine ⟨_, rfl, .l (xs many), _, rfl, ix6.tk (TK.same s7), fun v8 H8 s8 i8 => ⟨_, rfl, by show 3 ≤ sizeLine; decide, fun L2 nL2 => ?_⟩⟩
  have sL2 := same_new (o := .lst [v7, v8, .ref g2]) nL2
  refine ⟨[qT (.w (mn number)), qT (.l (xs many)), .l [.w "join", qT (.w main), .l [.w "join", listT [qT (.w "quote"), .w "s"], qT (.l (xs many))]]], _, L2, rfl, SqL.of upd_same, IsTs.cons ((i7.tk (TK.same s8)).tk (TK.same sL2)) (IsTs.cons (i8.tk (TK.same sL2)) (IsTs.one (((ig2.tk (TK.same s7)).tk (TK.same s8)).tk (TK.same sL2)))), (show 3 ≤ 100000 by decide), fun v9 H9 s9 i9 => ?_⟩
  refine ⟨_, rfl, by show 3 ≤ sizeLine; decide, fun e ne => ?_⟩
  refine newT (ts := [.w "join", listT [qT (.w (mn number)), qT (.l (xs many)), .l [.w "join", qT (.w main), .l [.w "join", listT [qT (.w "quote"), .w "s"], qT (.l (xs many))]]], .w "s"]) (IsTs.cons IsT.str (IsTs.cons i9 (IsTs.one IsT.str))) (fun v' H' s' i' => q v' H' ((k6.trans (s7.trans s8)).trans ((sL2.trans s9).trans s')) i') e ne
def knowT (prog : List Tr) (many : Nat) : List Tr :=
  .l [.w (mn prog.length), .l (.w "s" :: xs many), .l (.w (mn 0) :: treeT (mn prog.length) (prog.length + 1) many :: xs many)] :: rnP 0 prog
def ownT (prog : List Tr) : List Tr := fillP (knowT prog (nPar prog - 1)) (.l (knowT prog (nPar prog - 1)))
def spOwn (K : PySem.W.Frag) : Sp := fun vs H Q _ => ∃ (prog : List Tr) (v : V), vs = [v] ∧ IsT K H (.l prog) v ∧ GoodP prog ∧ Tr.sizes prog ≤ 300000 ∧ prog.length ≤ 30 ∧ 1 ≤ nPar prog ∧ nPar prog ≤ 9 ∧ GoodP (knowT prog (nPar prog - 1)) ∧
  ∀ (v' : V) (H' : Hp), Same H H' → IsT K H' (.l (ownT prog)) v' → Q v' H'
theorem ok_know_own {P : Program} {w : World} {K : PySem.W.Frag} {mg : Str → Option Value} {base : Heap} (T : Top K mg) {k : Nat} (G_check_program : FnOk P w K mg base CX0 4 T.a_check_program T.d_check_program ["value"] (spCheck K)) (G_inputs_of : FnOk P w K mg base CX0 5 T.a_inputs_of T.d_inputs_of ["program"] (spInputs K))
    (G_joined : FnOk P w K mg base CX0 6 T.a_joined T.d_joined ["programs"] (spJoined K)) (G_made_name : FnOk P w K mg base CX0 1 T.a_made_name T.d_made_name ["number"] spMade) (G_made_parameters : FnOk P w K mg base CX0 1 T.a_made_parameters T.d_made_parameters ["many"] (spXs K))
    (G_filled_tree : FnOk P w K mg base CX0 3 T.a_filled_tree T.d_filled_tree ["main", "number", "many"] (spTree K)) (G_with_main : FnOk P w K mg base CX0 2 T.a_with_main T.d_with_main ["functions", "parameters", "body"] (spMain K)) (G_fill : FnOk P w K mg base CX0 6 T.a_fill T.d_fill ["program", "value"] (spFill K)) :
    FnOk P w K mg base CX0 (k + 7) T.a_know_own T.d_know_own ["program"] (spOwn K) := by
  refine T.F_know_own.ok sc_know_own (fun vs H Q E h => ?_) (fun cdv A outer s H vs Q E hr h => ?_)
  · obtain ⟨prog, v, rfl, _⟩ := h
    rfl
  obtain ⟨prog, v, rfl, hv, G, hsz, hl, n1, n9, G2, q⟩ := h
  refine ⟨_, (pss_cons (ps_expr (pe_call G_check_program (hr.mono (by omega)) rfl T.m_check_program T.F_check_program.kp T.b_check_program .nil pass0 (pa_cons (pv 0) pa_nil)))
    (pss_cons (ps_set (i := 1) sc_know_own.nd rfl (Or.inl rfl) (pe_op op_sub (pe_call G_inputs_of (hr.mono (by omega)) rfl T.m_inputs_of T.F_inputs_of.kp T.b_inputs_of .nil pass0 (pa_cons (pv 0) pa_nil)) pe_int))
    (pss_cons (ps_if (PW.pt (pw_or (pt_cmpR op_lt (pv 1) pe_int (nomark _)) (pw_or1 (pt_cmpR op_gt (pv 1) (pe_glob (v := .int 8) rfl T.c_MOST_INPUTS ⟨_, rfl⟩) (nomark _))))) (pss_one ps_never) pss_nil)
    (pss_cons (ps_asg (pe_call G_joined (hr.mono (by omega)) rfl T.m_joined T.F_joined.kp T.b_joined .nil pass0 (pa_cons (pe_lst (pa_cons (pv 0) pa_nil)) pa_nil)) (pg_tup (by rfl) (pgs_cons (pg_name (i := 6) sc_know_own.nd rfl (Or.inl rfl)) (pgs_cons (pg_name (i := 7) sc_know_own.nd rfl (Or.inl rfl)) pgs_nil))))
    (pss_cons (ps_set (i := 2) sc_know_own.nd rfl (Or.inl rfl) (pe_call G_made_name (hr.mono (by omega)) rfl T.m_made_name T.F_made_name.kp T.b_made_name .nil pass0 (pa_cons (pe_callB call_len_seq rfl T.n_len bo_len (pa_cons (pv 6) pa_nil)) pa_nil)))
    (pss_cons (ps_set (i := 3) sc_know_own.nd rfl (Or.inl rfl) (pe_call G_filled_tree (hr.mono (by omega)) rfl T.m_filled_tree T.F_filled_tree.kp T.b_filled_tree .nil pass0 (pa_cons (pv 2) (pa_cons (pe_op op_add (pe_callB call_len_seq rfl T.n_len bo_len (pa_cons (pv 6) pa_nil)) pe_int) (pa_cons (pv 1) pa_nil)))))
    (pss_cons (ps_set (i := 4) sc_know_own.nd rfl (Or.inl rfl) (pe_call G_made_parameters (hr.mono (by omega)) rfl T.m_made_parameters T.F_made_parameters.kp T.b_made_parameters .nil pass0 (pa_cons (pv 1) pa_nil)))
    (pss_cons (ps_set (i := 5) sc_know_own.nd rfl (Or.inl rfl) (pe_call G_with_main (hr.mono (by omega)) rfl T.m_with_main T.F_with_main.kp T.b_with_main .nil pass0 (pa_cons (pv 6) (pa_cons (pe_op op_catA (pe_tup (pa_cons pe_str pa_nil)) (pv 4)) (pa_cons (pe_op op_catA (pe_tup (pa_cons (pe_ix ix_list (pv 7) pe_int (fun _ _ => rfl)) (pa_cons (pv 3) pa_nil))) (pv 4)) pa_nil)))))
    (pss_one (ps_ret (pe_call G_fill (hr.mono (by omega)) rfl T.m_fill T.F_fill.kp T.b_fill .nil pass0 (pa_cons (pv 5) (pa_cons (pv 5) pa_nil))))))))))))), ?_⟩
  refine ⟨_, rfl, prog, v, rfl, hv, G, fun H1 s1 => ?_⟩
  refine ⟨_, rfl, prog, v, rfl, hv.tk (TK.same s1), G, fun H2 s2 => ⟨_, _, rfl, rfl, ?_⟩⟩
  have em : ((nPar prog : Nat) : Int) - 1 = ((nPar prog - 1 : Nat) : Int) := by omega
  dsimp only
  rw [em]
  have hm9 : nPar prog - 1 ≤ 8 := by omega
  have em2 : nPar prog - 1 + 1 = nPar prog := by omega
  unfold ownT at q
  generalize hmm : nPar prog - 1 = mm at *
  refine ⟨_, rfl, _, _, rfl, rfl, _, rfl, ?_⟩
  rw [decide_eq_false (show ¬ ((mm : Nat) : Int) < 0 by omega)]
  refine ⟨_, rfl, _, _, rfl, rfl, _, rfl, ?_⟩
  rw [decide_eq_false (show ¬ (8 : Int) < ((mm : Nat) : Int) by omega)]
  have s12 := s1.trans s2
  have hv2 := hv.tk (TK.same (K := K) s12)
  -- functions, mains = joined([program])
  refine ⟨_, rfl, by show 1 ≤ sizeLine; decide, fun L nL => ?_⟩
  have sL := same_new (o := .lst [v]) nL
  refine ⟨[prog], [v], L, rfl, SqL.of upd_same, IsTs.one (hv2.tk (TK.same sL)), (fun p hp => by rw [List.mem_singleton.mp hp]; exact ⟨G, hsz⟩), by simp only [List.map_cons, List.map_nil, List.sum_cons, List.sum_nil]; omega, (show 1 ≤ 40 by decide), fun r m vf H3 s3 nm er emm iff => ?_⟩
  have k3 := (s12.trans sL).trans s3
  have ej : joinP [] [prog] = rnP 0 prog := by simp [joinP]
  have emn : mainsP 0 [prog] = [mn 0] := by simp [mainsP]
  rw [ej] at iff
  rw [emn] at emm
  have lr := rnP_len 0 prog
  refine ⟨r, _, rfl, SqT.of er, rfl, _, _, rfl, _, _, rfl, rfl, ?_⟩
  obtain ⟨af, usf, rfl, haf, husf⟩ := isT_l.mp iff
  have lf := husf.length
  -- main
  refine ⟨_, rfl, af, usf, rfl, .inr haf, usf.length, rfl, by omega, ?_⟩
  -- tree
  refine ⟨_, rfl, _, rfl, af, usf, rfl, .inr haf, _, _, rfl, rfl, _, rfl, mn usf.length, usf.length + 1, mm, rfl, by omega, by omega, fun vt H4 s4 i4 => ?_⟩
  refine ⟨_, rfl, mm, rfl, by omega, fun vx H5 s5 i5 => ?_⟩
  have k35 := s4.trans s5
  -- knowing
  refine ⟨_, rfl, by show 1 ≤ sizeLine; decide, fun g ng => ?_⟩
  have sg := same_new (o := .tup [.str "s"]) ng
  refine ⟨_, rfl, catA (as := [.w "s"]) (IsT.tup (SqT.of upd_same) (IsTs.one IsT.str)) (i5.tk (TK.same sg)) (by simp only [List.length_singleton, xs, List.length_map, List.length_range]; omega) fun vp H6 s6 i6 => ?_⟩
  have k6 := sg.trans s6
  have emm6 := k6 _ _ (k35 _ _ emm)
  refine ⟨_, rfl, m, _, 0, _, rfl, rfl, SqL.of emm6, rfl, _, rfl, by show 2 ≤ sizeLine; decide, fun g2 ng2 => ?_⟩
  have sg2 := same_new (o := .tup [.str (mn 0), vt]) ng2
  have it2 := ((i4.tk (TK.same (K := K) s5)).tk (TK.same k6)).tk (TK.same sg2)
  refine ⟨_, rfl, catA (as := [.w (mn 0), treeT (mn usf.length) (usf.length + 1) mm]) (IsT.tup (SqT.of upd_same) (IsTs.cons IsT.str (IsTs.one it2))) ((i5.tk (TK.same k6)).tk (TK.same sg2)) (by simp only [List.length_cons, List.length_nil, xs, List.length_map, List.length_range]; omega) fun vb H7 s7 i7 => ?_⟩
  have k7 := sg2.trans s7
  refine ⟨rnP 0 prog, _, _, _, vp, vb, rfl, ((iff.tk (TK.same k35)).tk (TK.same k6)).tk (TK.same k7), i6.tk (TK.same k7), i7, by omega, fun vk H8 s8 i8 => ?_⟩
  have eK : (Tr.l [.w (mn (rnP 0 prog).length), .l ([.w "s"] ++ xs mm), .l ([.w (mn 0), treeT (mn usf.length) (usf.length + 1) mm] ++ xs mm)] :: rnP 0 prog) = knowT prog mm := by
    unfold knowT
    rw [lf, lr]; rfl
  rw [eK] at i8
  have lk : (knowT prog mm).length = prog.length + 1 := by simp [knowT, rnP_len]
  have np : nPar (knowT prog mm) = mm + 1 := by simp [knowT, nPar, xs]
  refine ⟨_, rfl, _, rfl, knowT prog mm, .l (knowT prog mm), vk, vk, rfl, i8, i8, G2, by omega, by omega, by omega, fun v' H' s' i' => ?_⟩
  exact q v' H' (((k3.trans k35).trans (k6.trans k7)).trans (s8.trans s')) i'

/-! ### what know_own checks is a good program -/
theorem small_mn : ∀ k < 45, special (mn k) = false ∧ isNum (mn k) = true ∧ PySem.intText? (figs (mn k)) = some (k : Int) ∧ (decide (figs (mn k) = "0") || decide ((figs (mn k)).cps.toList.head? ≠ some 48)) = true ∧ (mn k).cps.toList ≠ [] ∧ (mn k).length ≤ 600 ∧ sw (mn k) = true := by decide +kernel
theorem mn_inj : ∀ i < 45, ∀ j < 45, mn i = mn j → i = j := by decide +kernel
theorem mn_ok {k : Nat} (h : k < 45) : NameOk (mn k) := by
  obtain ⟨_, h2, h3, _, h5, h6, _⟩ := small_mn k h
  exact ⟨h5, h6, fun _ => ⟨_, h3⟩⟩
theorem mn_fits {k : Nat} {m : Int} (h : k < 45) (hm : (k : Int) < m) : nameFits (mn k) false m = true := by
  obtain ⟨h1, h2, h3, h4, _⟩ := small_mn k h
  unfold special at h1
  unfold nameFits
  rw [h1, h2, h3, h4]
  simp [hm]
def parN : Tr → Int
  | .l [_, .l ps, _] => ps.length
  | _ => 0
def shp (t : Tr) : Prop := ∃ n ps b, t = .l [.w n, .l ps, b]
theorem addC_shp {acc : List (Str × Int)} {t : Tr} (h : shp t) : addC acc t = if (OR.lkI acc (nOf t)).isSome then acc else acc ++ [(nOf t, parN t)] := by
  obtain ⟨n, ps, b, rfl⟩ := h
  rfl
theorem fold_stable {h : Str} {i : Int} : ∀ (fs : List Tr) (acc : List (Str × Int)), OR.lkI acc h = some i → OR.lkI (fs.foldl addC acc) h = some i
  | [], acc, e => e
  | t :: fs, acc, e => by
    refine fold_stable fs (addC acc t) ?_
    unfold addC
    split
    · split
      · exact e
      · rw [lkI_app, e]
    · exact e
theorem fold_mem : ∀ (fs : List Tr) (acc : List (Str × Int)), (∀ t ∈ fs, shp t) → (fs.map nOf).Nodup → (∀ t ∈ fs, OR.lkI acc (nOf t) = none) → ∀ t ∈ fs, OR.lkI (fs.foldl addC acc) (nOf t) = some (parN t)
  | [], acc, _, _, _, t, ht => absurd ht List.not_mem_nil
  | x :: fs, acc, hs, hn, ha, t, ht => by
    have hx := ha x List.mem_cons_self
    have ex : addC acc x = acc ++ [(nOf x, parN x)] := by rw [addC_shp (hs x List.mem_cons_self), hx]; rfl
    rw [List.map_cons, List.nodup_cons] at hn
    rw [List.foldl_cons, ex]
    rcases List.mem_cons.mp ht with e | e
    · subst e
      refine fold_stable fs _ ?_
      rw [lkI_app, hx]
      simp [OR.lkI]
    · refine fold_mem fs _ (fun t ht => hs t (List.mem_cons_of_mem _ ht)) hn.2 (fun t ht => ?_) t e
      rw [lkI_app, ha t (List.mem_cons_of_mem _ ht)]
      have : ¬ nOf x = nOf t := fun z => hn.1 (by rw [z]; exact List.mem_map_of_mem ht)
      simp [OR.lkI, this]
theorem ixS_inj {a b : Str} : ∀ {l : List Str}, a ∈ l → b ∈ l → ixS a l = ixS b l → a = b
  | x :: l, ha, hb, h => by
    simp only [ixS] at h
    by_cases e1 : x = a
    · by_cases e2 : x = b
      · rw [← e1, e2]
      · rw [if_pos e1, if_neg e2] at h; omega
    · by_cases e2 : x = b
      · rw [if_neg e1, if_pos e2] at h; omega
      · rw [if_neg e1, if_neg e2] at h
        exact ixS_inj (l := l) (by rcases List.mem_cons.mp ha with q | q; exact absurd q.symm e1; exact q) (by rcases List.mem_cons.mp hb with q | q; exact absurd q.symm e2; exact q) (by omega)
theorem GoodP.shapes {prog : List Tr} (G : GoodP prog) : ∀ t ∈ prog, shp t := fun t ht => let ⟨n, ps, b, e, _⟩ := goodFs_mem G.good t ht; ⟨n, ps, b, e⟩
theorem lk_none {h : Str} (e : special h = false) : OR.lkI spW h = none := by
  unfold special at e
  cases q : OR.lkI spW h with
  | none => rfl
  | some _ => rw [q] at e; cases e
theorem GoodP.cntAt {prog : List Tr} (G : GoodP prog) {t : Tr} (ht : t ∈ prog) : OR.lkI (cnt prog) (nOf t) = some (parN t) :=
  fold_mem prog spW G.shapes (goodFs_nodup G.good).1 (fun t ht => by
    obtain ⟨n, ps, b, rfl, _, _, sp⟩ := goodFs_mem G.good t ht
    exact lk_none sp) t ht
theorem cnt_spec {prog : List Tr} {h : Str} (e : special h = true) : OR.lkI (cnt prog) h = OR.lkI spW h := by
  unfold special at e
  cases q : OR.lkI spW h with
  | none => rw [q] at e; cases e
  | some i => exact fold_stable prog spW q
theorem rn_nOf {prog : List Tr} (G : GoodP prog) (st0 : Nat) : (rnP st0 prog).map nOf = (prog.map nOf).map (rnF st0 prog) := by
  unfold rnP
  rw [List.map_map, List.map_map]
  refine List.map_congr_left fun t ht => ?_
  obtain ⟨n, ps, b, rfl⟩ := G.shapes t ht
  rfl
theorem rn_shp {prog : List Tr} (G : GoodP prog) (st0 : Nat) : ∀ t ∈ rnP st0 prog, shp t := fun t ht => by
  obtain ⟨u, hu, rfl⟩ := List.mem_map.mp ht
  obtain ⟨n, ps, b, rfl⟩ := G.shapes u hu
  exact ⟨_, ps, _, rfl⟩
/-- the count of the made program -/
theorem ren_good {f : Str → Str} {c c' : List (Str × Int)} (hs : ∀ h, special h = true → OR.lkI c' h = OR.lkI c h) (hn : ∀ h i, special h = false → OR.lkI c h = some i → OR.lkI c' (f h) = some i) (ps : List Str) : ∀ n : Nat, ∀ e : Tr, e.size < n → goodE ps c e = true → goodE ps c' (ren f e) = true := by
  intro n
  induction n with
  | zero => intro e h; exact absurd h (Nat.not_lt_zero _)
  | succ n ih =>
    intro e hz hg
    cases e with
    | w s => simpa [ren, goodE] using hg
    | l ts =>
      cases ts with
      | nil => simp [goodE] at hg
      | cons x args =>
        cases x with
        | l _ => simp [goodE] at hg
        | w h =>
          simp only [goodE, Bool.and_eq_true, decide_eq_true_eq, Bool.or_eq_true] at hg
          obtain ⟨h1, h2⟩ := hg
          have hq : special "quote" = true := by decide +kernel
          by_cases e : h = "quote"
          · subst e
            simp only [ren, if_true, goodE]
            rw [hs _ hq, decide_eq_true h1]; simp
          · rw [ren_call e]
            have hargs : ∀ as : List Tr, (∀ a ∈ as, a.size < n) → goodEs ps c as = true → goodEs ps c' (as.map (ren f)) = true := by
              intro as
              induction as with
              | nil => intro _ _; rfl
              | cons a as iha =>
                intro hsz hg
                simp only [goodEs, Bool.and_eq_true] at hg
                simp only [List.map_cons, goodEs, Bool.and_eq_true]
                exact ⟨ih a (hsz a List.mem_cons_self) hg.1, iha (fun b hb => hsz b (List.mem_cons_of_mem _ hb)) hg.2⟩
            have hl : OR.lkI c' (nwH f h) = some (args.length : Int) := by
              unfold nwH
              cases sp : special h with
              | true => rw [if_pos rfl, hs h sp]; exact h1
              | false => rw [if_neg (by decide)]; exact hn h _ sp h1
            have hg2 := hargs args (fun a ha => by have := Tr.size_mem ha; simp only [Tr.size, Tr.sizes] at hz; omega) (h2.resolve_left e)
            simp only [goodE, List.length_map]
            rw [decide_eq_true hl, hg2]; simp

theorem goodFs_of {c : List (Str × Int)} {many : Int} : ∀ (fs : List Tr) (seen : List Str), (∀ t ∈ fs, ∃ n ps b, t = .l [.w n, .l ps, b] ∧ nameFits n false many = true ∧ parsFit ps = true ∧ goodE (ps.map wOf) c b = true) → (seen ++ fs.map nOf).Nodup → goodFs c many seen fs = true
  | [], seen, _, _ => by simp [goodFs]
  | t :: fs, seen, h, hn => by
    obtain ⟨n, ps, b, rfl, h1, h2, h3⟩ := h t List.mem_cons_self
    have nin : n ∉ seen := fun z => by
      rw [List.map_cons] at hn
      exact (List.nodup_append.mp hn).2.2 n z n (by simp [nOf]) rfl
    have hn2 : ((seen ++ [n]) ++ fs.map nOf).Nodup := by
      rw [List.map_cons] at hn
      simpa [nOf] using hn
    simp only [goodFs, decide_eq_false nin, h1, h2, h3, Bool.true_and]
    exact goodFs_of fs _ (fun t ht => h t (List.mem_cons_of_mem _ ht)) hn2
theorem ren_size (f : Str → Str) : ∀ n : Nat, ∀ e : Tr, e.size < n → (ren f e).size = e.size := by
  intro n
  induction n with
  | zero => intro e h; exact absurd h (Nat.not_lt_zero _)
  | succ n ih =>
    intro e hz
    cases e with
    | w s => rfl
    | l ts =>
      cases ts with
      | nil => rfl
      | cons x args =>
        cases x with
        | l _ => rfl
        | w h =>
          by_cases e : h = "quote"
          · simp only [ren]; rw [if_pos e]
          · rw [ren_call e]
            have : ∀ as : List Tr, (∀ a ∈ as, a.size < n) → Tr.sizes (as.map (ren f)) = Tr.sizes as := by
              intro as
              induction as with
              | nil => intro _; rfl
              | cons a as iha =>
                intro h
                simp only [List.map_cons, Tr.sizes]
                rw [ih a (h a List.mem_cons_self), iha fun b hb => h b (List.mem_cons_of_mem _ hb)]
            simp only [Tr.size, Tr.sizes]
            rw [this args fun a ha => by have := Tr.size_mem ha; simp only [Tr.size, Tr.sizes] at hz; omega]
theorem rn_sizes {prog : List Tr} {f : Str → Str} : ∀ fs : List Tr, (∀ t ∈ fs, shp t) → Tr.sizes (fs.map (rnT f)) = Tr.sizes fs
  | [], _ => rfl
  | t :: fs, h => by
    obtain ⟨n, ps, b, rfl⟩ := h t List.mem_cons_self
    simp only [List.map_cons, Tr.sizes, rnT, Tr.size]
    rw [ren_size f _ b (Nat.lt_succ_self _), rn_sizes (prog := prog) fs fun t ht => h t (List.mem_cons_of_mem _ ht)]
theorem xs_sizes : ∀ m, Tr.sizes (xs m) = m
  | 0 => rfl
  | m + 1 => by
    have : xs (m + 1) = xs m ++ [.w (xn m)] := by simp [xs, List.range_succ]
    rw [this, Tr.sizes_append, xs_sizes m]; rfl
theorem s_pars : ∀ m < 9, parsFit (.w "s" :: xs m) = true := by decide +kernel
theorem know_good {prog : List Tr} (G : GoodP prog) (hl : prog.length ≤ 30) (hz : Tr.sizes prog ≤ 300000) (n1 : 1 ≤ nPar prog) (n9 : nPar prog ≤ 9) : GoodP (knowT prog (nPar prog - 1)) := by
  obtain ⟨mm, hmm⟩ : ∃ mm, mm = nPar prog - 1 := ⟨_, rfl⟩
  rw [← hmm]
  obtain ⟨nd, _⟩ := goodFs_nodup G.good
  have gm := goodFs_mem G.good
  have hix : ∀ n ∈ prog.map nOf, 0 + ixS n (prog.map nOf) < prog.length := fun n hn => by
    have := ixS_lt hn
    rw [List.length_map] at this; omega
  have nk : (knowT prog mm).map nOf = mn prog.length :: (prog.map nOf).map (rnF 0 prog) := by
    unfold knowT
    rw [List.map_cons, rn_nOf G]; rfl
  have ndk : ((knowT prog mm).map nOf).Nodup := by
    rw [nk, List.nodup_cons]
    constructor
    · intro z
      obtain ⟨n, hn, e⟩ := List.mem_map.mp z
      have h := hix n hn
      have := mn_inj _ (by omega) _ (by omega) e
      omega
    · refine List.pairwise_map.mpr (List.Pairwise.imp_of_mem (fun {a b} ha hb hab e => ?_) nd)
      have h1 := hix a ha
      have h2 := hix b hb
      have := mn_inj _ (by omega) _ (by omega) e
      exact hab (ixS_inj ha hb (by omega))
  have sk : ∀ t ∈ knowT prog mm, shp t := fun t ht => by
    unfold knowT at ht
    rcases List.mem_cons.mp ht with z | z
    · exact ⟨_, _, _, z⟩
    · exact rn_shp G 0 t z
  have nmk : ∀ t ∈ knowT prog mm, ∃ k, nOf t = mn k ∧ k < prog.length + 1 := fun t ht => by
    have hm : nOf t ∈ (knowT prog mm).map nOf := List.mem_map_of_mem ht
    rw [nk] at hm
    rcases List.mem_cons.mp hm with z | z
    · exact ⟨_, z, by omega⟩
    · obtain ⟨n, hn, e⟩ := List.mem_map.mp z
      have := hix n hn
      exact ⟨_, e.symm, by omega⟩
  have at_ : ∀ t ∈ knowT prog mm, OR.lkI (cnt (knowT prog mm)) (nOf t) = some (parN t) := fold_mem _ spW sk ndk fun t ht => by
    obtain ⟨k, e, hk⟩ := nmk t ht
    rw [e]; exact lk_none (small_mn k (by omega)).1
  have cs : ∀ h, special h = true → OR.lkI (cnt (knowT prog mm)) h = OR.lkI (cnt prog) h := fun h e => by rw [cnt_spec e, cnt_spec e]
  have cn : ∀ h i, special h = false → OR.lkI (cnt prog) h = some i → OR.lkI (cnt (knowT prog mm)) (rnF 0 prog h) = some i := fun h i e hi => by
    obtain ⟨t, ht, et⟩ := List.mem_map.mp (cnt_names (by rw [hi]; rfl) e)
    have h1 := G.cntAt ht
    rw [et, hi] at h1
    have hm : rnT (rnF 0 prog) t ∈ knowT prog mm := by
      unfold knowT rnP
      exact List.mem_cons_of_mem _ (List.mem_map_of_mem ht)
    have h2 := at_ _ hm
    obtain ⟨n, ps, b, rfl⟩ := G.shapes t ht
    have : n = h := et
    subst this
    rw [h1]; exact h2
  have hq : OR.lkI (cnt (knowT prog mm)) "quote" = some 1 := by rw [cnt_spec (by decide +kernel)]; decide +kernel
  have hj : OR.lkI (cnt (knowT prog mm)) "join" = some 2 := by rw [cnt_spec (by decide +kernel)]; decide +kernel
  obtain ⟨n0, ps0, b0, r0, ep, ok0, pf0⟩ := G.first
  have m0 : OR.lkI (cnt (knowT prog mm)) (mn 0) = some ((mm + 1 : Nat) : Int) := by
    have hm : rnT (rnF 0 prog) (.l [.w n0, .l ps0, b0]) ∈ knowT prog mm := by
      unfold knowT rnP
      exact List.mem_cons_of_mem _ (List.mem_map_of_mem (by rw [ep]; simp))
    have h2 := at_ _ hm
    have e1 : nOf (rnT (rnF 0 prog) (.l [.w n0, .l ps0, b0])) = mn 0 := by
      show rnF 0 prog n0 = mn 0
      unfold rnF
      rw [ep]; simp [nOf, ixS]
    have e2 : parN (rnT (rnF 0 prog) (.l [.w n0, .l ps0, b0])) = ((mm + 1 : Nat) : Int) := by
      show (ps0.length : Int) = _
      have : nPar prog = ps0.length := by rw [ep]; rfl
      omega
    rw [e1, e2] at h2; exact h2
  have bodyOk : goodE ((.w "s" :: xs mm).map wOf) (cnt (knowT prog mm)) (.l (.w (mn 0) :: treeT (mn prog.length) (prog.length + 1) mm :: xs mm)) = true := by
    have hs : ("s" : Str) ∈ (.w "s" :: xs mm).map wOf := by simp [wOf]
    have hx : goodEs ((.w "s" :: xs mm).map wOf) (cnt (knowT prog mm)) (xs mm) = true := by
      have : ∀ l : List Tr, (∀ t ∈ l, ∃ s, t = .w s ∧ s ∈ (.w "s" :: xs mm).map wOf) → goodEs ((.w "s" :: xs mm).map wOf) (cnt (knowT prog mm)) l = true := by
        intro l
        induction l with
        | nil => intro _; rfl
        | cons t l ih =>
          intro h
          obtain ⟨s, rfl, hs⟩ := h t List.mem_cons_self
          simp only [goodEs, goodE]
          rw [decide_eq_true hs, ih fun t ht => h t (List.mem_cons_of_mem _ ht)]; rfl
      refine this _ fun t ht => ?_
      obtain ⟨k, hk, rfl⟩ := List.mem_map.mp ht
      exact ⟨_, rfl, List.mem_map.mpr ⟨.w (xn k), List.mem_cons_of_mem _ (List.mem_map.mpr ⟨k, hk, rfl⟩), rfl⟩⟩
    have hlen : (treeT (mn prog.length) (prog.length + 1) mm :: xs mm).length = mm + 1 := by simp [xs]
    have ht : goodE ((.w "s" :: xs mm).map wOf) (cnt (knowT prog mm)) (treeT (mn prog.length) (prog.length + 1) mm) = true := by
      simp only [treeT, listT, qT, goodE, goodEs, hq, hj, decide_eq_true hs, List.length_cons, List.length_nil]
      simp
    simp only [goodE, goodEs, hx, ht, Bool.true_and, Bool.or_true, Bool.and_true]
    rw [hlen]
    exact decide_eq_true m0
  refine ⟨by simp [knowT], by simp [knowT, rnP_len]; omega, ?_, fun n ps b hm => ?_, ?_⟩
  · unfold knowT rnP
    simp only [Tr.sizes, Tr.size, treeT, listT, qT, xs_sizes]
    rw [rn_sizes (prog := prog) prog G.shapes]; omega
  · obtain ⟨k, e, hk⟩ := nmk _ hm
    have : n = mn k := e
    rw [this]; exact mn_ok (by omega)
  · refine goodFs_of _ [] (fun t ht => ?_) (by simpa using ndk)
    have hlk : (knowT prog mm).length = prog.length + 1 := by simp [knowT, rnP_len]
    obtain ⟨k, e, hk⟩ := nmk t ht
    have fits : nameFits (mn k) false ((knowT prog mm).length : Int) = true := mn_fits (by omega) (by omega)
    unfold knowT at ht
    rcases List.mem_cons.mp ht with z | z
    · subst z
      have e2 : mn prog.length = mn k := e
      exact ⟨_, _, _, rfl, by rw [e2]; exact fits, s_pars mm (by omega), bodyOk⟩
    · obtain ⟨u, hu, rfl⟩ := List.mem_map.mp z
      obtain ⟨n, ps, b, rfl, pf, gb, _⟩ := gm u hu
      have e2 : rnF 0 prog n = mn k := e
      exact ⟨_, ps, _, rfl, by rw [e2]; exact fits, pf, ren_good cs cn _ _ b (Nat.lt_succ_self _) gb⟩

/-! ### the law's value -/
theorem atV_mem {l : List V} {n : Nat} (hl : l.length = n) {r : Int} (h0 : 0 ≤ r) (h1 : r < n) : ∃ v, atI l r = some v ∧ v ∈ l := by
  have hr : r.toNat < l.length := by omega
  exact ⟨l[r.toNat], atI_of h0 (List.getElem?_eq_getElem hr), List.getElem_mem _⟩
def vwords : List Str := ["yes", "a", "quote", "f0", "b2", "done", "spin", "x"]
theorem vwords_sw : ∀ s ∈ vwords, sw s = true := by decide +kernel
def bv : Nat → Nat
  | 0 => 1
  | n + 1 => 3 * bv n + 1
theorem bv_pos : ∀ n, 1 ≤ bv n
  | 0 => Nat.le_refl _
  | n + 1 => by have := bv_pos n; simp only [bv]; omega
def spVal (K : PySem.W.Frag) (n : Nat) : Sp := fun vs H Q _ => ∃ (h d : Addr) (ds : List Int) (m : Nat), vs = [.ref h, .int (m : Int)] ∧ m < n ∧ Hnd H h d ds ∧
  ∀ (t : Tr) (v : V) (H' : Hp), t.sok = true → t.depth ≤ m → t.size ≤ bv m → IsT K H' t v → Kp (At h) H H' → Hnd H' h d ds → Q v H'
theorem ok_val {P : Program} {w : World} {K : PySem.W.Frag} {mg : Str → Option Value} {base : Heap} (T : Top K mg) (G_law_take : FnOk P w K mg base CX0 1 T.a_law_take T.d_law_take ["_law_hand", "_law_many"] spTake) :
    ∀ n : Nat, FnOk P w K mg base CX0 (n + 2) T.a_law_value T.d_law_value ["_law_hand", "_law_depth"] (spVal K n) := by
  intro n
  induction n with
  | zero => exact noSp fun vs H Q E h => by obtain ⟨_, _, _, _, _, hm, _⟩ := h; exact Nat.not_lt_zero _ hm
  | succ n G_law_value =>
  refine T.F_law_value.ok sc_law_value (fun vs H Q E h => ?_) (fun cdv A outer s H vs Q E hr h => ?_)
  · obtain ⟨h, d, ds, m, rfl, _⟩ := h
    rfl
  obtain ⟨h, d, ds, m, rfl, hm, hh, q⟩ := h
  refine ⟨_, (pss_cons (ps_if (PW.pt (pw_or (pt_cmpR op_eq (pv 1) pe_int (nomark _)) (pw_or1 (pt_cmpR op_eq (pe_call G_law_take (hr.mono (by omega)) rfl T.m_law_take T.F_law_take.kp T.b_law_take .nil pass0 (pa_cons (pv 0) (pa_cons pe_int pa_nil))) pe_int (nomark _))))) (pss_one (ps_ret (pe_ix ix_list (pe_lst (pa_cons pe_str (pa_cons pe_str (pa_cons pe_str (pa_cons pe_str (pa_cons pe_str (pa_cons pe_str (pa_cons pe_str (pa_cons pe_str pa_nil))))))))) (pe_call G_law_take (hr.mono (by omega)) rfl T.m_law_take T.F_law_take.kp T.b_law_take .nil pass0 (pa_cons (pv 0) (pa_cons pe_int pa_nil))) (fun _ _ => rfl)))) pss_nil)
    (pss_one (ps_ret (pe_callTy call_tuple_of rfl T.n_tuple bo_tuple (pa_cons (pe_lc (own := [("_law_k", 2)]) (g := gName 2) (tt := tYes) (by rfl) sc_law_value.nd (pi_range1 rfl T.n_range (pa_cons (pe_call G_law_take (hr.mono (by omega)) rfl T.m_law_take T.F_law_take.kp T.b_law_take .nil pass0 (pa_cons (pv 0) (pa_cons pe_int pa_nil))) pa_nil)) (blkOk_by (N := ["_law_hand", "_law_depth", "_law_k"]) (sc := defScope s_law_value) (by decide +kernel)) (fun _ _ _ _ _ => pg_name (i := 2) sc_law_value.nd rfl (Or.inl rfl)) (fun _ _ _ _ _ => pts_nil) (fun _ _ _ _ _ => (pe_call G_law_value (hr.mono (by omega)) rfl T.m_law_value T.F_law_value.kp T.b_law_value .nil pass0 (pa_cons (pv 0) (pa_cons (pe_op op_sub (pv 1) pe_int) pa_nil))))) pa_nil))))), ?_⟩
  have wordW : ∀ (H1 : Hp), Kp (At h) H H1 → Hnd H1 h d ds → ∀ L, H1 L = none → ∀ (r : Int) (H2 : Hp), 0 ≤ r → r < 8 → Kp (At h) (upd H1 L (.lst (vwords.map V.str))) H2 → Hnd H2 h d ds → ∃ (a : Addr) (ys : List V) (i : Int) (v : V), V.ref L = .ref a ∧ V.int r = .int i ∧ SqL K H2 a ys ∧ atI ys i = some v ∧ Q v H2 := fun H1 k1 hh1 L nL r H2 ra rb k2 hh2 => by
    obtain ⟨v, ev, hv⟩ := atV_mem (l := vwords.map V.str) (n := 8) rfl ra rb
    obtain ⟨s, hs, rfl⟩ := List.mem_map.mp hv
    refine ⟨L, _, r, _, rfl, rfl, SqL.of (k2 L _ (hh1.neH nL) upd_same), ev, ?_⟩
    exact q (.w s) _ _ (by simp only [Tr.sok]; exact vwords_sw s hs) (Nat.zero_le _) (by have := bv_pos m; simp only [Tr.size]; omega) IsT.str ((k1.new nL).trans k2) hh2
  refine ⟨_, rfl, rfl, _, rfl, ?_⟩
  by_cases hm0 : m = 0
  · rw [decide_eq_true (show V.int (m : Int) = V.int 0 by rw [hm0]; rfl)]
    refine ⟨by show 8 ≤ sizeLine; decide, fun L nL => ?_⟩
    refine ⟨_, rfl, h, d, ds, 8, rfl, hh.new nL, by decide, fun r H2 ra rb k2 hh2 => wordW H Kp.refl hh L nL r H2 ra rb k2 hh2⟩
  rw [decide_eq_false (show ¬ V.int (m : Int) = V.int 0 by intro e; injection e with e; omega)]
  refine ⟨_, rfl, h, d, ds, 3, rfl, hh, by decide, fun r1 H1 r1a r1b k1 hh1 => ⟨rfl, _, rfl, ?_⟩⟩
  refine ite2 (fun _ => ?_) (fun _ => ?_)
  · refine ⟨by show 8 ≤ sizeLine; decide, fun L nL => ?_⟩
    exact ⟨_, rfl, h, d, ds, 8, rfl, hh1.new nL, by decide, fun r H2 ra rb k2 hh2 => wordW H1 k1 hh1 L nL r H2 ra rb k2 hh2⟩
  refine ⟨_, rfl, h, d, ds, 4, rfl, hh1, by decide, fun many H2 ma mb k2 hh2 => ⟨many, rfl, by omega, by omega, fun D nD => ?_⟩⟩
  have kk := k1.trans k2
  refine lc_range (lo := 0) (n := many.toNat) (fun i H' => ∃ (ts : List Tr) (vs : List V), Kp (At h) H H' ∧ Hnd H' h d ds ∧ H' D = some (.lst vs) ∧ IsTs K H' ts vs ∧ ts.length = i ∧ ∀ t ∈ ts, t.sok = true ∧ t.depth ≤ m - 1 ∧ t.size ≤ bv (m - 1))
    ⟨[], [], kk.new nD, hh2.new nD, upd_same, IsTs.nil, rfl, fun _ h => absurd h List.not_mem_nil⟩ (fun i H5 hi hP => ?_) (fun H5 hP => ?_)
  · obtain ⟨ts, vs, k5, hh5, eD, hts, lt, hall⟩ := hP
    have nDh : D ≠ h := hh2.neH nD
    have nDd : D ≠ d := hh2.neD nD
    have nDH : H D = none := (Kp.fresh kk (fun z => nDh z) nD)
    refine ⟨rfl, _, rfl, _, rfl, _, _, rfl, rfl, h, d, ds, m - 1, ?_, by omega, hh5, fun t v H6 ok dp szv hv k6 hh6 => ?_⟩
    · have e1 : (m : Int) - 1 = ((m - 1 : Nat) : Int) := by omega
      show [V.ref h, V.int ((m : Int) - 1)] ++ [] = _
      rw [e1]; rfl
    · have eD6 : H6 D = some (.lst vs) := k6 D _ nDh eD
      have tk6 := hh5.tk (K := K) k6
      have lv := hts.length
      refine ⟨vs, eD6, szl (by omega), ts ++ [t], vs ++ [v], (k5.trans k6).put (.inr nDH), hh6.put nDh nDd, upd_same, ?_, by simp [lt], fun u hu => ?_⟩
      · have tk7 : TK K H6 (upd H6 D (.lst (vs ++ [v]))) := TK.put (mut_lst eD6)
        exact ((hts.tk tk6).tk tk7).snoc (hv.tk tk7)
      · rcases List.mem_append.mp hu with z | z
        · exact hall u z
        · rw [List.mem_singleton.mp z]; exact ⟨ok, dp, szv⟩
  · obtain ⟨ts, vs, k5, hh5, eD, hts, lt, hall⟩ := hP
    refine ⟨D, vs, rfl, .inl ⟨SqL.of eD, fun l nl => ?_⟩⟩
    obtain ⟨m', rfl⟩ : ∃ m', m = m' + 1 := ⟨m - 1, by omega⟩
    rw [Nat.add_sub_cancel] at hall
    refine q (.l ts) _ _ (Tr.sok_l.mpr fun t ht => (hall t ht).1) ?_ ?_ (IsT.tup (SqT.of upd_same) (hts.tk (TK.new nl))) (k5.new nl) (hh5.new nl)
    · have := Tr.depths_le (ts := ts) (n := m') fun t ht => (hall t ht).2.1
      simp only [Tr.depth]; omega
    · have h1 := Tr.sizes_le (ts := ts) (n := bv m') fun t ht => (hall t ht).2.2
      have h2 : ts.length * bv m' ≤ 3 * bv m' := Nat.mul_le_mul_right _ (by omega)
      simp only [Tr.size, bv]; omega

/-! ### the law's expression -/
def be : Nat → Nat
  | 0 => 20
  | n + 1 => 5 * be n + 2
theorem be_pos : ∀ n, 20 ≤ be n
  | 0 => Nat.le_refl _
  | n + 1 => by have := be_pos n; simp only [be]; omega
def callV (K : PySem.W.Frag) (H : Hp) (p : Str × Nat) (v : V) : Prop := ∃ a, v = .ref a ∧ SqT K H a [.str p.1, .int (p.2 : Nat)]
structure CntOk (c : List (Str × Int)) (cs : List (Str × Nat)) : Prop where
  sp : ∀ h, special h = true → OR.lkI c h = OR.lkI spW h
  nm : ∀ p ∈ cs, OR.lkI c p.1 = some (p.2 : Int) ∧ sw p.1 = true ∧ p.2 ≤ 5 ∧ p.1 ≠ "quote"
def spExp (K : PySem.W.Frag) (n : Nat) : Sp := fun vs H Q _ => ∃ (h d : Addr) (ds : List Int) (ps : List Str) (vp : V) (cl : Addr) (cvs : List V) (cs : List (Str × Nat)) (c : List (Str × Int)) (m : Nat), vs = [.ref h, vp, .ref cl, .int (m : Int)] ∧ m < n ∧ m ≤ 3 ∧ Hnd H h d ds ∧
  IsT K H (.l (ps.map .w)) vp ∧ (∀ s ∈ ps, sw s = true) ∧ ps.length ≤ 12 ∧ H cl = some (.lst cvs) ∧ cl ≠ h ∧ Paired (callV K H) cs cvs ∧ CntOk c cs ∧ cs.length ≤ 100 ∧
  ∀ (e : Tr) (v : V) (H' : Hp), goodE ps c e = true → e.sok = true → e.depth ≤ 4 + m → e.size ≤ be m → IsT K H' e v → Kp (At h) H H' → Hnd H' h d ds → Q v H'
theorem lk_sp {c : List (Str × Int)} {cs : List (Str × Nat)} (C : CntOk c cs) : OR.lkI c "quote" = some 1 ∧ OR.lkI c "if" = some 3 ∧ OR.lkI c "same" = some 2 ∧ OR.lkI c "word" = some 1 ∧ OR.lkI c "head" = some 1 ∧ OR.lkI c "tail" = some 1 ∧ OR.lkI c "join" = some 2 := by
  refine ⟨?_, ?_, ?_, ?_, ?_, ?_, ?_⟩ <;> (rw [C.sp _ (by decide +kernel)]; decide +kernel)
theorem goodE_mk {ps : List Str} {c : List (Str × Int)} {h : Str} {args : List Tr} (hl : OR.lkI c h = some (args.length : Int)) (ha : ∀ a ∈ args, goodE ps c a = true) : goodE ps c (.l (.w h :: args)) = true := by
  have : goodEs ps c args = true := by
    clear hl
    induction args with
    | nil => rfl
    | cons a as ih =>
      simp only [goodEs]
      rw [ha a List.mem_cons_self, ih fun b hb => ha b (List.mem_cons_of_mem _ hb)]; rfl
  simp only [goodE]
  rw [decide_eq_true hl, this]; simp
/-- a drawn part -/
structure DrE (ps : List Str) (c : List (Str × Int)) (m : Nat) (e : Tr) : Prop where
  good : goodE ps c e = true
  sok : e.sok = true
  dep : e.depth ≤ 4 + m
  sz : e.size ≤ be m
theorem DrE.mk' {ps : List Str} {c : List (Str × Int)} {m : Nat} {h : Str} {args : List Tr} (hl : OR.lkI c h = some (args.length : Int)) (hs : sw h = true) (ha : ∀ a ∈ args, DrE ps c m a) (h5 : args.length ≤ 5) : DrE ps c (m + 1) (.l (.w h :: args)) := by
  refine ⟨goodE_mk hl fun a hx => (ha a hx).good, Tr.sok_l.mpr fun t ht => ?_, ?_, ?_⟩
  · rcases List.mem_cons.mp ht with z | z
    · rw [z]; exact hs
    · exact (ha t z).sok
  · have := Tr.depths_le (ts := .w h :: args) (n := 4 + m) fun t ht => by
      rcases List.mem_cons.mp ht with z | z
      · rw [z]; exact Nat.zero_le _
      · exact (ha t z).dep
    simp only [Tr.depth]; omega
  · have h1 := Tr.sizes_le (ts := args) (n := be m) fun t ht => (ha t ht).sz
    have h2 : args.length * be m ≤ 5 * be m := Nat.mul_le_mul_right _ h5
    simp only [Tr.size, Tr.sizes, be]; omega
theorem prd_get {α β : Type} {F : α → β → Prop} : ∀ {as : List α} {bs : List β}, Paired F as bs → ∀ {i : Nat} {x : α}, as[i]? = some x → ∃ y, bs[i]? = some y ∧ F x y
  | _, _, .nil, _, _, h => by simp at h
  | _, _, .cons f _, 0, x, h => by
    simp only [List.getElem?_cons_zero] at h
    cases h; exact ⟨_, rfl, f⟩
  | _, _, .cons _ t, i + 1, x, h => by
    simp only [List.getElem?_cons_succ] at h
    exact prd_get t h
theorem ok_exp {P : Program} {w : World} {K : PySem.W.Frag} {mg : Str → Option Value} {base : Heap} (T : Top K mg) (G_law_take : FnOk P w K mg base CX0 1 T.a_law_take T.d_law_take ["_law_hand", "_law_many"] spTake)
    (G_law_value : FnOk P w K mg base CX0 5 T.a_law_value T.d_law_value ["_law_hand", "_law_depth"] (spVal K 3)) :
    ∀ n : Nat, FnOk P w K mg base CX0 (n + 6) T.a_law_expression T.d_law_expression ["_law_hand", "_law_parameters", "_law_calls", "_law_depth"] (spExp K n) := by
  intro n
  induction n with
  | zero => exact noSp fun vs H Q E h => by obtain ⟨_, _, _, _, _, _, _, _, _, _, _, hm, _⟩ := h; exact Nat.not_lt_zero _ hm
  | succ n G_law_expression =>
  refine T.F_law_expression.ok sc_law_expression (fun vs H Q E h => ?_) (fun cdv A outer s H vs Q E hr h => ?_)
  · obtain ⟨h, d, ds, ps, vp, cl, cvs, cs, c, m, rfl, _⟩ := h
    rfl
  obtain ⟨h, d, ds, ps, vp, cl, cvs, cs, c, m, rfl, hm, hm3, hh, hp, hsw, hp12, ecl, ncl, hcs, C, lcs, q⟩ := h
  obtain ⟨lq, li, lsm, lw, lhd, ltl, lj⟩ := lk_sp C
  have fin : ∀ (e : Tr), DrE ps c m e → ∀ (v : V) (H' : Hp), IsT K H' e v → Kp (At h) H H' → Hnd H' h d ds → Q v H' := fun e D v H' iv k hh' => q e v H' D.good D.sok D.dep D.sz iv k hh'
  refine ⟨_, (pss_cons (ps_set (i := 4) sc_law_expression.nd rfl (Or.inl rfl) (pe_call G_law_take (hr.mono (by omega)) rfl T.m_law_take T.F_law_take.kp T.b_law_take .nil pass0 (pa_cons (pv 0) (pa_cons pe_int pa_nil))))
    (pss_cons (ps_if (PW.pt (pw_or (pt_cmpR op_eq (pv 3) pe_int (nomark _)) (pw_or1 (pt_cmpR op_lt (pv 4) pe_int (nomark _))))) (pss_cons (ps_if (PW.pt (pw_and (pt_cmpR op_gt (pe_callB call_len_seq rfl T.n_len bo_len (pa_cons (pv 1) pa_nil)) pe_int (nomark _)) (pw_and1 (pt_cmpR op_gt (pe_call G_law_take (hr.mono (by omega)) rfl T.m_law_take T.F_law_take.kp T.b_law_take .nil pass0 (pa_cons (pv 0) (pa_cons pe_int pa_nil))) pe_int (nomark _))))) (pss_one (ps_ret (pe_ix ix_tup (pv 1) (pe_call G_law_take (hr.mono (by omega)) rfl T.m_law_take T.F_law_take.kp T.b_law_take .nil pass0 (pa_cons (pv 0) (pa_cons (pe_callB call_len_seq rfl T.n_len bo_len (pa_cons (pv 1) pa_nil)) pa_nil))) (fun _ _ => rfl)))) pss_nil)
    (pss_one (ps_ret (pe_tup (pa_cons pe_str (pa_cons (pe_call G_law_value (hr.mono (by omega)) rfl T.m_law_value T.F_law_value.kp T.b_law_value .nil pass0 (pa_cons (pv 0) (pa_cons pe_int pa_nil))) pa_nil)))))) pss_nil)
    (pss_cons (ps_if (pt_cmpR op_lt (pv 4) pe_int (nomark _)) (pss_cons (ps_setLc (i := 5) (own := [("_law_k", 9)]) (g := gName 9) (tt := tYes) (by rfl) sc_law_expression.nd rfl rfl (sw_true rfl rfl rfl (by decide +kernel)) (pi_range1 rfl T.n_range (pa_cons pe_int pa_nil)) (blkOk_by (N := ["_law_hand", "_law_parameters", "_law_calls", "_law_depth", "_law_kind", "_law_parts", "_law_left", "_law_name", "_law_many", "_law_k"]) (sc := defScope s_law_expression) (by decide +kernel)) (fun _ _ _ _ _ => pg_name (i := 9) sc_law_expression.nd rfl (Or.inl rfl)) (fun _ _ _ _ _ => pts_nil) (fun _ _ _ _ _ => (pe_call G_law_expression (hr.mono (by omega)) rfl T.m_law_expression T.F_law_expression.kp T.b_law_expression .nil pass0 (pa_cons (pv 0) (pa_cons (pv 1) (pa_cons (pv 2) (pa_cons (pe_op op_sub (pv 3) pe_int) pa_nil)))))))
    (pss_one (ps_ret (pe_tup (pa_cons pe_str (pa_cons (pe_ix ix_list (pv 5) pe_int (fun _ _ => rfl)) (pa_cons (pe_ix ix_list (pv 5) pe_int (fun _ _ => rfl)) (pa_cons (pe_ix ix_list (pv 5) pe_int (fun _ _ => rfl)) pa_nil)))))))) pss_nil)
    (pss_cons (ps_if (PW.pt (pw_or (pt_cmpR op_eq (pv 4) pe_int (nomark _)) (pw_or1 (pt_cmpR op_eq (pv 4) pe_int (nomark _))))) (pss_cons (ps_set (i := 6) sc_law_expression.nd rfl (Or.inl rfl) (pe_call G_law_expression (hr.mono (by omega)) rfl T.m_law_expression T.F_law_expression.kp T.b_law_expression .nil pass0 (pa_cons (pv 0) (pa_cons (pv 1) (pa_cons (pv 2) (pa_cons (pe_op op_sub (pv 3) pe_int) pa_nil))))))
    (pss_one (ps_ret (pe_tup (pa_cons pe_str (pa_cons (pv 6) (pa_cons (pe_call G_law_expression (hr.mono (by omega)) rfl T.m_law_expression T.F_law_expression.kp T.b_law_expression .nil pass0 (pa_cons (pv 0) (pa_cons (pv 1) (pa_cons (pv 2) (pa_cons (pe_op op_sub (pv 3) pe_int) pa_nil))))) pa_nil))))))) pss_nil)
    (pss_cons (ps_if (pt_cmpR op_lt (pv 4) pe_int (nomark _)) (pss_cons (ps_set (i := 6) sc_law_expression.nd rfl (Or.inl rfl) (pe_call G_law_expression (hr.mono (by omega)) rfl T.m_law_expression T.F_law_expression.kp T.b_law_expression .nil pass0 (pa_cons (pv 0) (pa_cons (pv 1) (pa_cons (pv 2) (pa_cons (pe_op op_sub (pv 3) pe_int) pa_nil))))))
    (pss_one (ps_ret (pe_tup (pa_cons pe_str (pa_cons (pv 6) (pa_cons (pe_call G_law_expression (hr.mono (by omega)) rfl T.m_law_expression T.F_law_expression.kp T.b_law_expression .nil pass0 (pa_cons (pv 0) (pa_cons (pv 1) (pa_cons (pv 2) (pa_cons (pe_op op_sub (pv 3) pe_int) pa_nil))))) pa_nil))))))) pss_nil)
    (pss_cons (ps_if (pt_cmpR op_eq (pv 4) pe_int (nomark _)) (pss_one (ps_ret (pe_tup (pa_cons pe_str (pa_cons (pe_call G_law_expression (hr.mono (by omega)) rfl T.m_law_expression T.F_law_expression.kp T.b_law_expression .nil pass0 (pa_cons (pv 0) (pa_cons (pv 1) (pa_cons (pv 2) (pa_cons (pe_op op_sub (pv 3) pe_int) pa_nil))))) pa_nil))))) pss_nil)
    (pss_cons (ps_if (PW.pt (pw_or (pt_cmpR op_lt (pv 4) pe_int (nomark _)) (pw_or1 (pt_cmpR op_eq (pe_callB call_len_seq rfl T.n_len bo_len (pa_cons (pv 2) pa_nil)) pe_int (nomark _))))) (pss_one (ps_ret (pe_tup (pa_cons (pe_ix ix_list (pe_lst (pa_cons pe_str (pa_cons pe_str pa_nil))) (pe_op op_mod (pv 4) pe_int) (fun _ _ => rfl)) (pa_cons (pe_call G_law_expression (hr.mono (by omega)) rfl T.m_law_expression T.F_law_expression.kp T.b_law_expression .nil pass0 (pa_cons (pv 0) (pa_cons (pv 1) (pa_cons (pv 2) (pa_cons (pe_op op_sub (pv 3) pe_int) pa_nil))))) pa_nil))))) pss_nil)
    (pss_cons (ps_asg (pe_ix ix_list (pv 2) (pe_call G_law_take (hr.mono (by omega)) rfl T.m_law_take T.F_law_take.kp T.b_law_take .nil pass0 (pa_cons (pv 0) (pa_cons (pe_callB call_len_seq rfl T.n_len bo_len (pa_cons (pv 2) pa_nil)) pa_nil))) (fun _ _ => rfl)) (pg_tup (by rfl) (pgs_cons (pg_name (i := 7) sc_law_expression.nd rfl (Or.inl rfl)) (pgs_cons (pg_name (i := 8) sc_law_expression.nd rfl (Or.inl rfl)) pgs_nil))))
    (pss_one (ps_ret (pe_op op_catA (pe_tup (pa_cons (pv 7) pa_nil)) (pe_callTy call_tuple_of rfl T.n_tuple bo_tuple (pa_cons (pe_lc (own := [("_law_k", 9)]) (g := gName 9) (tt := tYes) (by rfl) sc_law_expression.nd (pi_range1 rfl T.n_range (pa_cons (pv 8) pa_nil)) (blkOk_by (N := ["_law_hand", "_law_parameters", "_law_calls", "_law_depth", "_law_kind", "_law_parts", "_law_left", "_law_name", "_law_many", "_law_k"]) (sc := defScope s_law_expression) (by decide +kernel)) (fun _ _ _ _ _ => pg_name (i := 9) sc_law_expression.nd rfl (Or.inl rfl)) (fun _ _ _ _ _ => pts_nil) (fun _ _ _ _ _ => (pe_call G_law_expression (hr.mono (by omega)) rfl T.m_law_expression T.F_law_expression.kp T.b_law_expression .nil pass0 (pa_cons (pv 0) (pa_cons (pv 1) (pa_cons (pv 2) (pa_cons (pe_op op_sub (pv 3) pe_int) pa_nil))))))) pa_nil))))))))))))), ?_⟩
  have sub : m ≠ 0 → ∀ (H1 : Hp), Kp (At h) H H1 → Hnd H1 h d ds → ∀ (Qx : VK) (Ex : XK), (∀ (e : Tr) (v : V) (H' : Hp), DrE ps c (m - 1) e → IsT K H' e v → Kp (At h) H1 H' → Hnd H' h d ds → Qx v H') → spExp K n [.ref h, vp, .ref cl, .int ((m : Int) - 1)] H1 Qx Ex := fun m0 H1 k1 hh1 Qx Ex qx => by
    have t1 := hh.tk (K := K) k1
    refine ⟨h, d, ds, ps, vp, cl, cvs, cs, c, m - 1, by rw [show (m : Int) - 1 = ((m - 1 : Nat) : Int) by omega], by omega, by omega, hh1, hp.tk t1, hsw, hp12, k1 _ _ ncl ecl, ncl, paired_mono (fun p v ⟨a, e1, e2⟩ => ⟨a, e1, t1 _ _ e2⟩) hcs, C, lcs, fun e v H' g1 g2 g3 g4 iv k' hh' => qx e v H' ⟨g1, g2, g3, g4⟩ iv k' hh'⟩
  refine ⟨_, rfl, h, d, ds, 12, rfl, hh, by decide, fun kind H1 ka kb k1 hh1 => ?_⟩
  have hp1 := hp.tk (hh.tk k1)
  dsimp only
  refine if_b (decide (m = 0 ∨ kind < 2)) (fun Qb qb => ?_) (fun cb => ?_) (fun cb => ?_)
  · refine ⟨_, rfl, rfl, _, rfl, ?_⟩
    by_cases h0 : m = 0
    · rw [decide_eq_true (Or.inl h0)] at qb
      rw [decide_eq_true (show V.int (m : Int) = V.int 0 by rw [h0]; rfl)]
      exact qb
    · rw [decide_eq_false (show ¬ V.int (m : Int) = V.int 0 by intro e; injection e with e; omega)]
      refine ⟨_, rfl, _, _, rfl, rfl, _, rfl, ?_⟩
      have : decide (kind < 2) = decide (m = 0 ∨ kind < 2) := decide_eq_decide.mpr ⟨.inr, fun e => e.resolve_left h0⟩
      rw [this]; exact qb
  · -- a parameter or a quote
    have qt : ∀ (H2 : Hp), Kp (At h) H H2 → Hnd H2 h d ds → ∀ (t : Tr) (v : V) (H3 : Hp), t.sok = true → t.depth ≤ 2 → t.size ≤ bv 2 → IsT K H3 t v → Kp (At h) H2 H3 → Hnd H3 h d ds → 2 ≤ sizeLine ∧ ∀ p, H3 p = none → Q (.ref p) (upd H3 p (.tup [.str "quote", v])) := fun H2 k2 hh2 t v H3 g1 g2 g3 iv k3 hh3 => by
      refine ⟨by show 2 ≤ sizeLine; decide, fun p np => ?_⟩
      have bm := be_pos m
      have b2 : bv 2 = 13 := rfl
      refine newT (ts := [.w "quote", t]) (IsTs.cons IsT.str (IsTs.one iv)) (fun v' H' s' i' => fin (.l [.w "quote", t]) ⟨?_, ?_, ?_, ?_⟩ v' H' i' ((k2.trans k3).trans (Kp.of s')) (hh3.same s')) p np
      · simp only [goodE]; rw [lq]; simp
      · exact Tr.sok_l.mpr fun x hx => by
          rcases List.mem_cons.mp hx with z | z
          · rw [z]; decide +kernel
          · rw [List.mem_singleton.mp z]; exact g1
      · simp only [Tr.depth, Tr.depths]; omega
      · simp only [Tr.size, Tr.sizes]; omega
    obtain ⟨ap, us, rfl, hap, hus⟩ := isT_l.mp hp1
    obtain rfl := isTs_words hus
    have lps : (ps.map V.str).length = ps.length := List.length_map _
    dsimp only
    refine ⟨_, rfl, ap, _, rfl, .inr hap, _, _, rfl, rfl, _, rfl, ?_⟩
    by_cases hp0 : 0 < ps.length
    · rw [decide_eq_true (show (0 : Int) < (((ps.map V.str).length : Nat) : Int) by rw [lps]; omega)]
      refine ⟨_, rfl, h, d, ds, 3, rfl, hh1, by decide, fun r1 H2 r1a r1b k2 hh2 => ⟨_, _, rfl, rfl, _, rfl, ?_⟩⟩
      have k12 := k1.trans k2
      refine ite2 (fun _ => ?_) (fun _ => ?_)
      · have hap2 := hh1.tk (K := K) k2 _ _ hap
        refine ⟨_, rfl, _, rfl, _, rfl, ap, _, rfl, .inr hap2, h, d, ds, _, rfl, hh2, by rw [lps]; omega, fun r2 H3 r2a r2b k3 hh3 => ?_⟩
        obtain ⟨v, ev, hv⟩ := atV_mem (l := ps.map V.str) (n := ps.length) lps r2a (by rw [lps] at r2b; exact r2b)
        obtain ⟨s', hs', rfl⟩ := List.mem_map.mp hv
        refine ⟨ap, _, r2, _, rfl, rfl, hh2.tk (K := K) k3 _ _ hap2, ev, ?_⟩
        have bm := be_pos m
        exact fin (.w s') ⟨by simp [goodE, hs'], by simp only [Tr.sok]; exact hsw _ hs', by simp only [Tr.depth]; omega, by simp only [Tr.size]; omega⟩ _ _ IsT.str (k12.trans k3) hh3
      · exact ⟨_, rfl, h, d, ds, 2, rfl, by omega, hh2, fun t v H3 g1 g2 g3 iv k3 hh3 => qt H2 k12 hh2 t v H3 g1 g2 g3 iv k3 hh3⟩
    · rw [decide_eq_false (show ¬ (0 : Int) < (((ps.map V.str).length : Nat) : Int) by rw [lps]; omega)]
      exact ⟨_, rfl, h, d, ds, 2, rfl, by omega, hh1, fun t v H3 g1 g2 g3 iv k3 hh3 => qt H1 k1 hh1 t v H3 g1 g2 g3 iv k3 hh3⟩
  · have cb' := of_decide_eq_false cb
    have m0 : m ≠ 0 := fun e => cb' (.inl e)
    have k2' : ¬ kind < 2 := fun e => cb' (.inr e)
    obtain ⟨m', rfl⟩ : ∃ m', m = m' + 1 := ⟨m - 1, by omega⟩
    rw [Nat.add_sub_cancel] at sub
    -- a call of a special word
    have mk : ∀ (nm : Str) (args : List Tr) (vs : List V) (H2 : Hp), OR.lkI c nm = some (args.length : Int) → sw nm = true → (∀ a ∈ args, DrE ps c m' a) → args.length ≤ 5 → IsTs K H2 args vs → Kp (At h) H H2 → Hnd H2 h d ds → ∀ p, H2 p = none → Q (.ref p) (upd H2 p (.tup (.str nm :: vs))) := fun nm args vs H2 g1 g2 g3 g4 ia k2 hh2 p np =>
      newT (ts := .w nm :: args) (IsTs.cons IsT.str ia) (fun v' H' s' i' => fin _ (DrE.mk' g1 g2 g3 g4) v' H' i' (k2.trans (Kp.of s')) (hh2.same s')) p np
    have sws : sw "if" = true ∧ sw "same" = true ∧ sw "join" = true ∧ sw "word" = true ∧ sw "head" = true ∧ sw "tail" = true := by decide +kernel
    obtain ⟨w1, w2, w3, w4, w5, w6⟩ := sws
    -- drawn parts
    have two : ∀ (nm : Str) (Hx : Hp), OR.lkI c nm = some 2 → sw nm = true → Kp (At h) H Hx → Hnd Hx h d ds → ∀ (e1 : Tr) (v1 : V), DrE ps c m' e1 → IsT K Hx e1 v1 → ∀ (e2 : Tr) (v2 : V) (H3 : Hp), DrE ps c m' e2 → IsT K H3 e2 v2 → Kp (At h) Hx H3 → Hnd H3 h d ds → 3 ≤ sizeLine ∧ ∀ p, H3 p = none → Q (.ref p) (upd H3 p (.tup [.str nm, v1, v2])) := fun nm Hx g1 g2 kx hhx e1 v1 d1 i1 e2 v2 H3 d2 i2 k3 hh3 =>
      ⟨by decide, fun p np => mk nm [e1, e2] [v1, v2] H3 g1 g2 (fun a ha => by
        rcases List.mem_cons.mp ha with z | z
        · rw [z]; exact d1
        · rw [List.mem_singleton.mp z]; exact d2) (show 2 ≤ 5 by decide) (IsTs.cons (i1.tk (hhx.tk k3)) (IsTs.one i2)) (kx.trans k3) hh3 p np⟩
    refine ⟨_, rfl, _, _, rfl, rfl, _, rfl, ?_⟩
    refine ite2 (fun _ => ?_) (fun hk4 => ?_)
    · refine ⟨3, rfl, by decide, by decide, fun D nD => ?_⟩
      have nDh : D ≠ h := hh1.neH nD
      have nDd : D ≠ d := hh1.neD nD
      have nDH : H D = none := Kp.fresh k1 (fun z => nDh z) nD
      refine lc_range (lo := 0) (n := (3 : Int).toNat) (fun i H' => ∃ (ts : List Tr) (vs : List V), Kp (At h) H H' ∧ Hnd H' h d ds ∧ H' D = some (.lst vs) ∧ IsTs K H' ts vs ∧ ts.length = i ∧ ∀ t ∈ ts, DrE ps c m' t)
        ⟨[], [], k1.new nD, hh1.new nD, upd_same, IsTs.nil, rfl, fun _ h => absurd h List.not_mem_nil⟩ (fun i H5 hi hP => ?_) (fun H5 hP => ?_)
      · obtain ⟨ts, vs, k5, hh5, eD, hts, lt, hall⟩ := hP
        refine ⟨rfl, _, rfl, _, rfl, _, rfl, _, rfl, _, _, rfl, rfl, sub m0 H5 k5 hh5 _ E0 fun e v H6 De iv k6 hh6 => ?_⟩
        have eD6 := k6 D _ nDh eD
        have lv := hts.length
        have tk6 := hh5.tk (K := K) k6
        refine ⟨vs, eD6, szl (by omega), ts ++ [e], vs ++ [v], (k5.trans k6).put (.inr nDH), hh6.put nDh nDd, upd_same, ?_, by simp [lt], fun u hu => ?_⟩
        · exact ((hts.tk tk6).snoc iv).tk (TK.put (mut_lst eD6))
        · rcases List.mem_append.mp hu with z | z
          · exact hall u z
          · rw [List.mem_singleton.mp z]; exact De
      · obtain ⟨ts, vs, k5, hh5, eD, hts, lt, hall⟩ := hP
        obtain ⟨e0, e1, e2, rfl⟩ : ∃ e0 e1 e2, ts = [e0, e1, e2] := by
          match ts, lt with
          | [a, b, c], _ => exact ⟨a, b, c, rfl⟩
        obtain ⟨v0, r0, rfl, i0, ir0⟩ := isTs_cons.mp hts
        obtain ⟨v1, r1, rfl, i1, ir1⟩ := isTs_cons.mp ir0
        obtain ⟨v2, r2, rfl, i2, ir2⟩ := isTs_cons.mp ir1
        obtain rfl := isTs_nil.mp ir2
        refine ⟨_, rfl, D, _, 0, v0, rfl, rfl, SqL.of eD, rfl, _, rfl, D, _, 1, v1, rfl, rfl, SqL.of eD, rfl, _, rfl, D, _, 2, v2, rfl, rfl, SqL.of eD, rfl, by show 4 ≤ sizeLine; decide, fun p np => ?_⟩
        exact mk "if" [e0, e1, e2] [v0, v1, v2] H5 li w1 hall (show 3 ≤ 5 by decide) hts k5 hh5 p np
    dsimp only [tNext]
    refine if_b (decide (kind = 4 ∨ kind = 5)) (fun Qb qb => ?_) (fun _ => ?_) (fun cb5 => ?_)
    · refine ⟨_, rfl, rfl, _, rfl, ?_⟩
      by_cases h4 : kind = 4
      · rw [decide_eq_true (Or.inl h4)] at qb
        rw [decide_eq_true (show V.int kind = V.int 4 by rw [h4])]
        exact qb
      · rw [decide_eq_false (show ¬ V.int kind = V.int 4 by intro e; injection e with e; exact h4 e)]
        refine ⟨_, rfl, rfl, _, rfl, ?_⟩
        have : decide (V.int kind = V.int 5) = decide (kind = 4 ∨ kind = 5) := decide_eq_decide.mpr ⟨fun e => .inr (by injection e), fun e => by rw [e.resolve_left h4]⟩
        rw [this]; exact qb
    · refine ⟨_, rfl, _, rfl, _, rfl, _, rfl, _, _, rfl, rfl, sub m0 H1 k1 hh1 _ E0 fun e1 v1 H2 d1 i1 k2 hh2 => ?_⟩
      refine ⟨_, rfl, _, rfl, _, rfl, _, rfl, _, rfl, _, _, rfl, rfl, sub m0 H2 (k1.trans k2) hh2 _ E0 fun e2 v2 H3 d2 i2 k3 hh3 => ?_⟩
      exact two "same" H2 lsm w2 (k1.trans k2) hh2 e1 v1 d1 i1 e2 v2 H3 d2 i2 k3 hh3
    refine ⟨_, rfl, _, _, rfl, rfl, _, rfl, ?_⟩
    refine ite2 (fun _ => ?_) (fun hk8 => ?_)
    · refine ⟨_, rfl, _, rfl, _, rfl, _, rfl, _, _, rfl, rfl, sub m0 H1 k1 hh1 _ E0 fun e1 v1 H2 d1 i1 k2 hh2 => ?_⟩
      refine ⟨_, rfl, _, rfl, _, rfl, _, rfl, _, rfl, _, _, rfl, rfl, sub m0 H2 (k1.trans k2) hh2 _ E0 fun e2 v2 H3 d2 i2 k3 hh3 => ?_⟩
      exact two "join" H2 lj w3 (k1.trans k2) hh2 e1 v1 d1 i1 e2 v2 H3 d2 i2 k3 hh3
    -- one part
    have one : ∀ (nm : Str), OR.lkI c nm = some 1 → sw nm = true → ∀ (e1 : Tr) (v1 : V) (H3 : Hp), DrE ps c m' e1 → IsT K H3 e1 v1 → Kp (At h) H H3 → Hnd H3 h d ds → 2 ≤ sizeLine ∧ ∀ p, H3 p = none → Q (.ref p) (upd H3 p (.tup [.str nm, v1])) := fun nm g1 g2 e1 v1 H3 d1 i1 k3 hh3 =>
      ⟨by decide, fun p np => mk nm [e1] [v1] H3 g1 g2 (fun a ha => by rw [List.mem_singleton.mp ha]; exact d1) (show 1 ≤ 5 by decide) (IsTs.one i1) k3 hh3 p np⟩
    refine ⟨_, rfl, rfl, _, rfl, ?_⟩
    by_cases h8 : kind = 8
    · rw [decide_eq_true (show V.int kind = V.int 8 by rw [h8])]
      exact ⟨_, rfl, _, rfl, _, rfl, _, rfl, _, _, rfl, rfl, sub m0 H1 k1 hh1 _ E0 fun e1 v1 H2 d1 i1 k2 hh2 => one "word" lw w4 e1 v1 H2 d1 i1 (k1.trans k2) hh2⟩
    rw [decide_eq_false (show ¬ V.int kind = V.int 8 by intro e; injection e with e; exact h8 e)]
    have lcv := paired_len hcs
    have ecl1 := k1 _ _ ncl ecl
    refine iteF ?_
    dsimp only [tNext]
    refine if_b (decide (kind < 11 ∨ cvs.length = 0)) (fun Qb qb => ?_) (fun _ => ?_) (fun cb6 => ?_)
    · refine ⟨_, rfl, _, _, rfl, rfl, _, rfl, ?_⟩
      by_cases h11 : kind < 11
      · rw [decide_eq_true (Or.inl h11)] at qb
        rw [decide_eq_true h11]
        exact qb
      · rw [decide_eq_false h11]
        refine ⟨_, rfl, cl, cvs, rfl, .inl (SqL.of ecl1), rfl, _, rfl, ?_⟩
        have : decide (V.int ((cvs.length : Nat) : Int) = V.int 0) = decide (kind < 11 ∨ cvs.length = 0) := decide_eq_decide.mpr ⟨fun e => .inr (by injection e with e; omega), fun e => by rw [e.resolve_left h11]; rfl⟩
        rw [this]; exact qb
    · have p2 : (0 : Int) < 2 := by decide
      refine ⟨by show 2 ≤ sizeLine; decide, fun B nB => ⟨_, rfl, _, _, rfl, rfl, p2, ?_⟩⟩
      have m0' := Int.emod_nonneg kind (show (2 : Int) ≠ 0 by decide)
      have m1' := Int.emod_lt_of_pos kind p2
      obtain ⟨nm, en, lnm, wnm⟩ : ∃ nm : Str, atI [V.str "head", .str "tail"] (kind % 2) = some (.str nm) ∧ OR.lkI c nm = some 1 ∧ sw nm = true := by
        have e : kind % 2 = 0 ∨ kind % 2 = 1 := by omega
        rcases e with e | e
        · rw [e]; exact ⟨"head", rfl, lhd, w5⟩
        · rw [e]; exact ⟨"tail", rfl, ltl, w6⟩
      refine ⟨B, _, _, _, rfl, rfl, SqL.of upd_same, en, ?_⟩
      have kB := k1.new (o := .lst [.str "head", .str "tail"]) nB
      have hB := hh1.new (o := .lst [.str "head", .str "tail"]) nB
      exact ⟨_, rfl, _, rfl, _, rfl, _, rfl, _, _, rfl, rfl, sub m0 _ kB hB _ E0 fun e1 v1 H2 d1 i1 k2 hh2 => one nm lnm wnm e1 v1 H2 d1 i1 (kB.trans k2) hh2⟩
    · have cb6' := of_decide_eq_false cb6
      have cpos : 0 < cvs.length := by omega
      refine ⟨_, rfl, _, rfl, _, rfl, cl, cvs, rfl, .inl (SqL.of ecl1), h, d, ds, _, rfl, hh1, by omega, fun r H2 ra rb k2 hh2 => ?_⟩
      have hr2 : r.toNat < cvs.length := by omega
      have hr3 : r.toNat < cs.length := by omega
      have ecl2 := k2 _ _ ncl ecl1
      have t2 := hh1.tk (K := K) k2
      have t1 := hh.tk (K := K) k1
      obtain ⟨y, gy, a, ey, ha⟩ := prd_get hcs (List.getElem?_eq_getElem hr3)
      refine ⟨cl, cvs, r, y, rfl, rfl, SqL.of ecl2, atI_of ra gy, ?_⟩
      subst ey
      obtain ⟨c1, c2, c3, c4⟩ := C.nm _ (List.getElem_mem hr3)
      generalize cs[r.toNat] = pr at ha c1 c2 c3 c4
      obtain ⟨nm, mny⟩ := pr
      dsimp only at ha c1 c2 c3 c4
      refine ⟨a, _, rfl, t2 _ _ (t1 _ _ ha), rfl, _, _, rfl, _, _, rfl, rfl, ?_⟩
      have k12 := k1.trans k2
      refine ⟨_, rfl, by show 1 ≤ sizeLine; decide, fun g ng => ⟨_, rfl, (mny : Int), rfl, by omega, by omega, fun D nD => ?_⟩⟩
      have kg := k12.new (o := .tup [.str nm]) ng
      have hg := hh2.new (o := .tup [.str nm]) ng
      have eg : (upd H2 g (.tup [.str nm])) g = some (.tup [.str nm]) := upd_same
      generalize (upd H2 g (.tup [.str nm])) = H3 at kg hg eg nD ⊢
      have nDh : D ≠ h := hg.neH nD
      have nDd : D ≠ d := hg.neD nD
      have nDg : g ≠ D := ne_of_none eg nD
      have nDH : H D = none := Kp.fresh kg (fun z => nDh z) nD
      have ngh : g ≠ h := hh2.neH ng
      rw [show ((mny : Nat) : Int).toNat = mny by omega]
      refine lc_range (lo := 0) (n := mny) (fun i H' => ∃ (ts : List Tr) (vs : List V), Kp (At h) H H' ∧ Hnd H' h d ds ∧ H' g = some (.tup [.str nm]) ∧ H' D = some (.lst vs) ∧ IsTs K H' ts vs ∧ ts.length = i ∧ ∀ t ∈ ts, DrE ps c m' t)
        ⟨[], [], kg.new nD, hg.new nD, by rw [upd_ne nDg]; exact eg, upd_same, IsTs.nil, rfl, fun _ h => absurd h List.not_mem_nil⟩ (fun i H5 hi hP => ?_) (fun H5 hP => ?_)
      · obtain ⟨ts, vs, k5, hh5, eg5, eD, hts, lt, hall⟩ := hP
        refine ⟨rfl, _, rfl, _, rfl, _, rfl, _, rfl, _, _, rfl, rfl, sub m0 H5 k5 hh5 _ E0 fun e v H6 De iv k6 hh6 => ?_⟩
        have eD6 := k6 D _ nDh eD
        have lv := hts.length
        have tk6 := hh5.tk (K := K) k6
        refine ⟨vs, eD6, szl (by omega), ts ++ [e], vs ++ [v], (k5.trans k6).put (.inr nDH), hh6.put nDh nDd, by rw [upd_ne nDg]; exact k6 _ _ ngh eg5, upd_same, ?_, by simp [lt], fun u hu => ?_⟩
        · exact ((hts.tk tk6).snoc iv).tk (TK.put (mut_lst eD6))
        · rcases List.mem_append.mp hu with z | z
          · exact hall u z
          · rw [List.mem_singleton.mp z]; exact De
      · obtain ⟨ts, vs, k5, hh5, eg5, eD, hts, lt, hall⟩ := hP
        refine ⟨D, vs, rfl, .inl ⟨SqL.of eD, fun l nl => ?_⟩⟩
        refine newT (Q := fun v Hv => rCatA K (.ref g) v Hv _) hts (fun v7 H7 s7 i7 => ?_) l nl
        refine catA (as := [.w nm]) (IsT.tup (SqT.of (s7 _ _ eg5)) (IsTs.one IsT.str)) i7 (by simp only [List.length_singleton]; omega) fun v8 H8 s8 i8 => ?_
        exact fin _ (DrE.mk' (h := nm) (args := ts) (by rw [lt]; exact c1) c2 hall (by omega)) v8 H8 i8 (k5.trans (Kp.of (s7.trans s8))) (hh5.same (s7.trans s8))

/-! ### _law_renamed, _law_listed -/
abbrev six : List Str := ["if", "same", "word", "head", "tail", "join"]
theorem six_in {h : Str} (hq : h ≠ "quote") : decide (h ∈ six) = special h := by
  rw [← spec_in]
  exact decide_eq_decide.mpr ⟨fun z => List.mem_cons_of_mem _ z, fun z => by
    rcases List.mem_cons.mp z with q | q
    · exact absurd q hq
    · exact q⟩
def spLRen (K : PySem.W.Frag) (n : Nat) : Sp := fun vs H Q _ => ∃ (e : Tr) (v : V) (p : Addr) (kvs : List (Key × V)) (ps : List Str) (c : List (Str × Int)) (f : Str → Str), vs = [v, .ref p] ∧ IsT K H e v ∧ H p = some (.dK kvs) ∧ goodE ps c e = true ∧ e.depth < n ∧ e.size ≤ 400000 ∧
  (∀ h, (OR.lkI c h).isSome = true → special h = false → valV kvs (.inr h) = some (.str (f h))) ∧ ∀ (v' : V) (H' : Hp), Same H H' → IsT K H' (ren f e) v' → Q v' H'
theorem ok_lren {P : Program} {w : World} {K : PySem.W.Frag} {mg : Str → Option Value} {base : Heap} (T : Top K mg) : ∀ n : Nat, FnOk P w K mg base CX0 (n + 1) T.a_law_renamed T.d_law_renamed ["_law_expression_here", "_law_names"] (spLRen K n) := by
  intro n
  induction n with
  | zero => exact noSp fun vs H Q E h => by obtain ⟨_, _, _, _, _, _, _, _, _, _, _, hm, _⟩ := h; exact Nat.not_lt_zero _ hm
  | succ n G_law_renamed =>
  refine T.F_law_renamed.ok sc_law_renamed (fun vs H Q E h => ?_) (fun cdv A outer s H vs Q E hr h => ?_)
  · obtain ⟨e, v, p, kvs, ps, c, f, rfl, _⟩ := h
    rfl
  obtain ⟨e, v, p, kvs, ps, c, f, rfl, hv, ep, hg, hd, hsz, hn, q⟩ := h
  refine ⟨_, (pss_cons (ps_if (PW.pt (pw_or (pt_val (pe_callB call_isi rfl T.n_isinstance bo_isinstance (pa_cons (pv 0) (pa_cons (pe_bltn (v := .ty "str") rfl T.n_str bo_str rfl) pa_nil)))) (pw_or1 (pt_cmpR op_eq (pe_ix ix_tup (pv 0) pe_int (fun _ _ => rfl)) pe_str (nomark _))))) (pss_one (ps_ret (pv 0))) pss_nil)
    (pss_cons (ps_set (i := 2) sc_law_renamed.nd rfl (Or.inl rfl) (pe_callTy call_tuple_of rfl T.n_tuple bo_tuple (pa_cons (pe_lc (own := [("_law_part", 3)]) (g := gName 3) (tt := tYes) (by rfl) sc_law_renamed.nd (pi_tup (pe_slice sl_tupA (pv 0) (po_some pe_int) po_none)) (blkOk_by (N := ["_law_expression_here", "_law_names", "_law_parts", "_law_part"]) (sc := defScope s_law_renamed) (by decide +kernel)) (fun _ _ _ _ _ => pg_name (i := 3) sc_law_renamed.nd rfl (Or.inl rfl)) (fun _ _ _ _ _ => pts_nil) (fun _ _ _ _ _ => (pe_call G_law_renamed (hr.mono (by omega)) rfl T.m_law_renamed T.F_law_renamed.kp T.b_law_renamed .nil pass0 (pa_cons (pv 3) (pa_cons (pv 1) pa_nil))))) pa_nil)))
    (pss_cons (ps_if (pt_cmpR op_in_seq (pe_ix ix_tup (pv 0) pe_int (fun _ _ => rfl)) (pe_lst (pa_cons pe_str (pa_cons pe_str (pa_cons pe_str (pa_cons pe_str (pa_cons pe_str (pa_cons pe_str pa_nil))))))) rfl) (pss_one (ps_ret (pe_op op_catA (pe_tup (pa_cons (pe_ix ix_tup (pv 0) pe_int (fun _ _ => rfl)) pa_nil)) (pv 2)))) pss_nil)
    (pss_one (ps_ret (pe_op op_catA (pe_tup (pa_cons (pe_dget (hu_of hr) (pv 1) (pe_ix ix_tup (pv 0) pe_int (fun _ _ => rfl)) (fun _ _ => rfl)) pa_nil)) (pv 2))))))), ?_⟩
  cases e with
  | w s =>
    obtain rfl := isT_w.mp hv
    exact ⟨_, rfl, _, _, _, _, true, rfl, .ty "str", tyX_str, kty k_ss, true, rfl, _, rfl, q _ H (Same.refl H) hv⟩
  | l ts =>
    obtain ⟨a, us, rfl, ha, hus⟩ := isT_l.mp hv
    cases ts with
    | nil => simp [goodE] at hg
    | cons x args =>
      cases x with
      | l _ => simp [goodE] at hg
      | w h =>
        obtain ⟨u, r, rfl, i0, ir⟩ := isTs_cons.mp hus
        obtain rfl := isT_w.mp i0
        refine ⟨_, rfl, _, _, _, _, false, rfl, .ty "str", tyX_tup ha, kty k_ts, false, rfl, ?_⟩
        refine ⟨_, rfl, a, _, 0, _, rfl, rfl, ha, atI_of (by decide) rfl, rfl, _, rfl, ?_⟩
        by_cases hq : h = "quote"
        · rw [decide_eq_true (show V.str h = V.str "quote" by rw [hq])]
          refine ⟨_, rfl, q _ H (Same.refl H) ?_⟩
          simp only [ren]; rw [if_pos hq]; exact hv
        rw [decide_eq_false (show ¬ V.str h = V.str "quote" by intro e; injection e with e; exact hq e)]
        simp only [goodE, Bool.and_eq_true, decide_eq_false hq, Bool.false_or, decide_eq_true_eq] at hg
        have hl1 : (1 : Nat) ≤ (Tr.w h :: args).length := by simp
        simp only [Tr.depth, Tr.depths] at hd
        simp only [Tr.size, Tr.sizes] at hsz
        have gs : ∀ t ∈ args, goodE ps c t = true := by
          have : ∀ l : List Tr, goodEs ps c l = true → ∀ t ∈ l, goodE ps c t = true := by
            intro l
            induction l with
            | nil => intro _ t ht; cases ht
            | cons a l ih =>
              intro h t ht
              simp only [goodEs, Bool.and_eq_true] at h
              rcases List.mem_cons.mp ht with z | z
              · rw [z]; exact h.1
              · exact ih h.2 t z
          exact this args hg.2
        refine ⟨_, rfl, _, rfl, ?_⟩
        dsimp only [tNoPart]
        refine slA (lo := some ((1 : Nat) : Int)) hv fun v1 H1 s1 i1 => ?_
        rw [cutT_drop hl1] at i1
        simp only [List.drop_succ_cons, List.drop_zero] at i1
        obtain ⟨a1, us1, rfl, ha1, hus1⟩ := isT_l.mp i1
        have l1 := hus1.length
        refine ⟨a1, rfl, ⟨_, ha1⟩, fun D nD => ?_⟩
        refine lc_tup (K := K) (a := a1) (xs := us1) (fun i H' => ∃ ys : List V, Same H1 H' ∧ H' D = some (.lst ys) ∧ IsTs K H' ((args.take i).map (ren f)) ys)
          ⟨[], same_new nD, upd_same, IsTs.nil⟩ (fun i H' _ h => let ⟨_, z, _⟩ := h; TK.same z _ _ ha1) (fun i x H3 hx h => ?_) (fun H3 h => ?_)
        · obtain ⟨ys, s3, eD, iy⟩ := h
          obtain ⟨t, gt, ht⟩ := hus1.tree hx
          have tm := List.mem_of_getElem? gt
          have d1 := Tr.depth_mem tm
          have d2 := Tr.size_mem tm
          have ly := iy.length
          rw [List.length_map, List.length_take] at ly
          have lsz := Tr.length_le_sizes args
          refine ⟨rfl, _, rfl, _, rfl, t, x, p, kvs, ps, c, f, rfl, ht.tk (TK.same s3), s3 _ _ (s1 _ _ ep), gs t tm, by omega, by omega, hn, fun v4 H4 s4 i4 => ?_⟩
          have eD4 := s4 _ _ eD
          refine ⟨_, eD4, szl (by omega), ys ++ [v4], fun b o e => ?_, upd_same, ?_⟩
          · rw [upd_ne (ne_of_none e nD)]; exact s4 _ _ (s3 b o e)
          · rw [List.take_add_one, gt, List.map_append]
            exact ((iy.tk (TK.same s4)).snoc i4).tk (TK.put (mut_lst eD4))
        · obtain ⟨ys, s3, eD, iy⟩ := h
          rw [l1, List.take_length] at iy
          refine ⟨D, ys, rfl, .inl ⟨SqL.of eD, fun l nl => ?_⟩⟩
          have s5 := same_new (o := .tup ys) nl
          have i5 : IsT K (upd H3 l (.tup ys)) (.l (args.map (ren f))) (.ref l) := IsT.tup (SqT.of upd_same) (iy.tk (TK.new nl))
          generalize (upd H3 l (.tup ys)) = H5 at s5 i5 ⊢
          have s15 := (s1.trans s3).trans s5
          have lar := Tr.length_le_sizes args
          have fin : ∀ (vw : V) (Hx : Hp), Same H5 Hx → vw = .str (nwH f h) → ∀ p, Hx p = none → rCatA K (.ref p) (.ref l) (upd Hx p (.tup [vw])) Q := fun vw Hx sx ev p np => by
            have sp := same_new (o := .tup [vw]) np
            refine catA (as := [.w (nwH f h)]) (IsT.tup (SqT.of upd_same) (IsTs.one (by rw [ev]; exact IsT.str))) ((i5.tk (TK.same sx)).tk (TK.same sp)) (by simp only [List.length_singleton, List.length_map]; omega) fun v8 H8 s8 i8 => ?_
            refine q v8 H8 (s15.trans (sx.trans (sp.trans s8))) ?_
            rw [ren_call hq]; exact i8
          have hx5 := TK.same (K := K) s15 _ _ ha
          refine ⟨_, rfl, a, _, 0, _, rfl, rfl, hx5, atI_of (by decide) rfl, by show 6 ≤ sizeLine; decide, fun B nB => ?_⟩
          have sB := same_new (o := .lst [.str "if", .str "same", .str "word", .str "head", .str "tail", .str "join"]) nB
          refine ⟨B, six.map V.str, rfl, .inl (SqL.of upd_same), rfl, flat_strs _, ?_⟩
          dsimp only
          rw [show (if false then !inV (.str h) (six.map V.str) else inV (.str h) (six.map V.str)) = special h from by rw [if_neg (by decide), inV_strs, six_in hq]]
          have hxB := TK.same (K := K) sB _ _ hx5
          refine ⟨_, rfl, ?_⟩
          refine ite2 (fun hs => ?_) (fun hs => ?_)
          · refine ⟨_, rfl, a, _, 0, _, rfl, rfl, hxB, atI_of (by decide) rfl, by show 1 ≤ sizeLine; decide, fun p np => ⟨_, rfl, fin _ _ sB (by unfold nwH; rw [if_pos hs]) p np⟩⟩
          · have hs' : special h = false := by simpa using hs
            have hk := hn h (by rw [hg.1]; rfl) hs'
            refine ⟨_, rfl, _, rfl, a, _, 0, _, rfl, rfl, hxB, atI_of (by decide) rfl, p, .str (f h), rfl, by rw [← hk]; exact DGet.k (k := .inr h) (sB _ _ (s15 _ _ ep)), by show 1 ≤ sizeLine; decide, fun p np => ⟨_, rfl, fin _ _ sB (by unfold nwH; rw [if_neg hs]) p np⟩⟩
def spLList (K : PySem.W.Frag) : Sp := fun vs H Q _ => ∃ (ts : List Tr) (us : List V) (l : Addr), vs = [.ref l] ∧ SqL K H l us ∧ IsTs K H ts us ∧ ts.length ≤ 100000 ∧ ∀ (v' : V) (H' : Hp), Same H H' → IsT K H' (listT ts) v' → Q v' H'
theorem ok_llist {P : Program} {w : World} {K : PySem.W.Frag} {mg : Str → Option Value} {base : Heap} (T : Top K mg) {k : Nat} : FnOk P w K mg base CX0 (k + 1) T.a_law_listed T.d_law_listed ["_law_parts"] (spLList K) := by
  refine T.F_law_listed.ok sc_law_listed (fun vs H Q E h => ?_) (fun cdv A outer s H vs Q E hr h => ?_)
  · obtain ⟨ts, us, l, rfl, _⟩ := h
    rfl
  obtain ⟨ts, us, l, rfl, hs, hts, hz, q⟩ := h
  have hl := hts.length
  refine ⟨_, (pss_cons (ps_set (i := 1) sc_law_listed.nd rfl (Or.inl rfl) (pe_tup (pa_cons pe_str (pa_cons (pe_tup pa_nil) pa_nil))))
    (pss_cons (ps_for PassesOwn.never rfl (pi_range1 rfl T.n_range (pa_cons (pe_callB call_len_seq rfl T.n_len bo_len (pa_cons (pv 0) pa_nil)) pa_nil)) (pg_name (i := 2) sc_law_listed.nd rfl (Or.inl rfl)) (pss_one (ps_set (i := 1) sc_law_listed.nd rfl (Or.inl rfl) (pe_tup (pa_cons pe_str (pa_cons (pe_ix ix_list (pv 0) (pe_op op_sub (pe_op op_sub (pe_callB call_len_seq rfl T.n_len bo_len (pa_cons (pv 0) pa_nil)) pe_int) (pv 2)) (fun _ _ => rfl)) (pa_cons (pv 1) pa_nil)))))))
    (pss_one (ps_ret (pv 1))))), ?_⟩
  refine ⟨Nat.zero_le _, fun e ne => ⟨by show 2 ≤ sizeLine; decide, fun e1 ne1 => ?_⟩⟩
  have s0 := same_new (o := .tup []) ne
  have s1 := same_new (o := .tup [.str "quote", .ref e]) ne1
  have i1 : IsT K (upd (upd H e (.tup [])) e1 (.tup [.str "quote", .ref e])) (listT []) (.ref e1) := IsT.tup (SqT.of upd_same) (IsTs.cons IsT.str (IsTs.one (IsT.tup (SqT.of (s1 _ _ upd_same)) IsTs.nil)))
  have s2 := s0.trans s1
  generalize (upd (upd H e (.tup [])) e1 (.tup [.str "quote", .ref e])) = H2 at s2 i1 ⊢
  refine ⟨_, rfl, l, us, rfl, .inl (sqL_same s2 hs), _, rfl, by omega, by omega, ?_⟩
  rw [show (((us.length : Nat) : Int)).toNat = us.length by omega]
  refine for_range (lo := 0) (n := us.length) (fun i σ H' => ∃ (vf : V) (y : Option V), σ = [some (.ref l), some vf, y] ∧ Same H H' ∧ IsT K H' (listT (ts.drop (ts.length - i))) vf)
    ⟨_, _, rfl, s2, by rw [Nat.sub_zero, List.drop_length]; exact i1⟩ (fun i σ H3 hi h => ?_) (fun σ H3 h => ?_)
  · obtain ⟨vf, y, rfl, s3, i3⟩ := h
    have hi2 : ts.length - 1 - i < ts.length := by omega
    obtain ⟨u, gu, hu⟩ := (hts.tk (TK.same (K := K) s3)).get (List.getElem?_eq_getElem hi2)
    have edr : ts.drop (ts.length - (i + 1)) = ts[ts.length - 1 - i] :: ts.drop (ts.length - i) := by
      rw [show ts.length - (i + 1) = ts.length - 1 - i by omega, List.drop_eq_getElem_cons hi2, show ts.length - 1 - i + 1 = ts.length - i by omega]
    have eix : ((us.length : Nat) : Int) - 1 - (0 + (i : Int)) = ((ts.length - 1 - i : Nat) : Int) := by omega
    have hs3 := sqL_same s3 hs
    refine ⟨_, rfl, _, rfl, l, us, rfl, .inl hs3, _, _, rfl, rfl, _, rfl, _, _, rfl, rfl, ?_⟩
    dsimp only
    rw [eix]
    refine ⟨l, us, _, u, rfl, rfl, hs3, atI_nat gu, _, rfl, by show 3 ≤ sizeLine; decide, fun g ng => ?_⟩
    have sg := same_new (o := .tup [.str "join", u, vf]) ng
    refine ⟨.ref g, _, rfl, s3.trans sg, ?_⟩
    rw [edr]
    exact IsT.tup (SqT.of upd_same) (IsTs.cons IsT.str (IsTs.cons (hu.tk (TK.same sg)) (IsTs.one (i3.tk (TK.same sg)))))
  · obtain ⟨vf, y, rfl, s3, i3⟩ := h
    rw [hl, Nat.sub_self, List.drop_zero] at i3
    exact ⟨_, rfl, q vf H3 s3 i3⟩

/-! ### _law_known -/
theorem f0_mn : ("f0" : Str) = mn 0 := by decide +kernel
def spKnown (K : PySem.W.Frag) : Sp := fun vs H Q _ => ∃ (prog : List Tr) (v : V) (mm : Nat), vs = [v, .int mm] ∧ IsT K H (.l prog) v ∧ GoodP prog ∧ mm + 1 = nPar prog ∧ mm ≤ 8 ∧ prog.length ≤ 30 ∧ Tr.sizes prog ≤ 300000 ∧ (∀ n ps b, Tr.l [.w n, .l ps, b] ∈ prog → b.depth < 12) ∧
  ∀ (v' : V) (H' : Hp), Same H H' → IsT K H' (.l (ownT prog)) v' → Q v' H'
theorem ok_known {P : Program} {w : World} {K : PySem.W.Frag} {mg : Str → Option Value} {base : Heap} (T : Top K mg) {k : Nat} (G_law_renamed : FnOk P w K mg base CX0 13 T.a_law_renamed T.d_law_renamed ["_law_expression_here", "_law_names"] (spLRen K 12))
    (G_law_listed : FnOk P w K mg base CX0 1 T.a_law_listed T.d_law_listed ["_law_parts"] (spLList K)) : FnOk P w K mg base CX0 (k + 14) T.a_law_known T.d_law_known ["_law_program", "_law_many"] (spKnown K) := by
  refine T.F_law_known.ok sc_law_known (fun vs H Q E h => ?_) (fun cdv A outer s H vs Q E hr h => ?_)
  · obtain ⟨prog, v, mm, rfl, _⟩ := h
    rfl
  obtain ⟨prog, v, mm, rfl, hv, G, hmm, hm8, hl30, hsz, hdep, q⟩ := h
  refine ⟨_, (pss_cons (ps_set (i := 2) sc_law_known.nd rfl (Or.inl rfl) pe_dnewK)
    (pss_cons (ps_for PassesOwn.never rfl (pi_range1 rfl T.n_range (pa_cons (pe_callB call_len_seq rfl T.n_len bo_len (pa_cons (pv 0) pa_nil)) pa_nil)) (pg_name (i := 3) sc_law_known.nd rfl (Or.inl rfl)) (pss_one (ps_dput (hu_of hr) (pv 2) (pe_ix ix_tup (pe_ix ix_tup (pv 0) (pv 3) (fun _ _ => rfl)) pe_int (fun _ _ => rfl)) (pe_op op_add_str pe_str (pe_callTy call_str_int rfl T.n_str bo_str (pa_cons (pv 3) pa_nil))) rfl)))
    (pss_cons (ps_set (i := 4) sc_law_known.nd rfl (Or.inl rfl) (pe_lst pa_nil))
    (pss_cons (ps_for PassesOwn.never rfl (pi_tup (pv 0)) (pg_tup (by rfl) (pgs_cons (pg_name (i := 11) sc_law_known.nd rfl (Or.inl rfl)) (pgs_cons (pg_name (i := 12) sc_law_known.nd rfl (Or.inl rfl)) (pgs_cons (pg_name (i := 8) sc_law_known.nd rfl (Or.inl rfl)) pgs_nil)))) (pss_one (ps_expr (pe_bm PySem.F.plainAttrs_list PySem.F.slot_list_append PySem.F.type_list_append mt_append (pv 4) (pa_cons (pe_tup (pa_cons (pe_dget (hu_of hr) (pv 2) (pv 11) (fun _ _ => rfl)) (pa_cons (pv 12) (pa_cons (pe_call G_law_renamed (hr.mono (by omega)) rfl T.m_law_renamed T.F_law_renamed.kp T.b_law_renamed .nil pass0 (pa_cons (pv 8) (pa_cons (pv 2) pa_nil))) pa_nil)))) pa_nil)))))
    (pss_cons (ps_set (i := 5) sc_law_known.nd rfl (Or.inl rfl) (pe_callTy call_tuple_of rfl T.n_tuple bo_tuple (pa_cons (pe_lc (own := [("_law_k", 3)]) (g := gName 3) (tt := tYes) (by rfl) sc_law_known.nd (pi_range1 rfl T.n_range (pa_cons (pv 1) pa_nil)) (blkOk_by (N := ["_law_program", "_law_many", "_law_names", "_law_k", "_law_functions", "_law_inputs", "_law_main", "_law_front", "_law_body", "_law_tree", "_law_knowing", "_law_name", "_law_parameters"]) (sc := defScope s_law_known) (by decide +kernel)) (fun _ _ _ _ _ => pg_name (i := 3) sc_law_known.nd rfl (Or.inl rfl)) (fun _ _ _ _ _ => pts_nil) (fun _ _ _ _ _ => (pe_op op_add_str pe_str (pe_callTy call_str_int rfl T.n_str bo_str (pa_cons (pe_op op_add (pv 3) pe_int) pa_nil))))) pa_nil)))
    (pss_cons (ps_set (i := 6) sc_law_known.nd rfl (Or.inl rfl) (pe_op op_add_str pe_str (pe_callTy call_str_int rfl T.n_str bo_str (pa_cons (pe_callB call_len_seq rfl T.n_len bo_len (pa_cons (pv 0) pa_nil)) pa_nil))))
    (pss_cons (ps_set (i := 7) sc_law_known.nd rfl (Or.inl rfl) (pe_op op_add_str pe_str (pe_callTy call_str_int rfl T.n_str bo_str (pa_cons (pe_op op_add (pe_callB call_len_seq rfl T.n_len bo_len (pa_cons (pv 0) pa_nil)) pe_int) pa_nil))))
    (pss_cons (ps_set (i := 8) sc_law_known.nd rfl (Or.inl rfl) (pe_tup (pa_cons pe_str (pa_cons (pe_tup (pa_cons pe_str (pa_cons (pv 6) pa_nil))) (pa_cons (pe_tup (pa_cons pe_str (pa_cons (pe_call G_law_listed (hr.mono (by omega)) rfl T.m_law_listed T.F_law_listed.kp T.b_law_listed .nil pass0 (pa_cons (pe_lst (pa_cons (pe_tup (pa_cons pe_str (pa_cons pe_str pa_nil))) (pa_cons pe_str pa_nil))) pa_nil)) (pa_cons (pe_tup (pa_cons pe_str (pa_cons (pv 5) pa_nil))) pa_nil)))) pa_nil)))))
    (pss_cons (ps_set (i := 9) sc_law_known.nd rfl (Or.inl rfl) (pe_tup (pa_cons pe_str (pa_cons (pe_call G_law_listed (hr.mono (by omega)) rfl T.m_law_listed T.F_law_listed.kp T.b_law_listed .nil pass0 (pa_cons (pe_lst (pa_cons (pe_tup (pa_cons pe_str (pa_cons (pv 7) pa_nil))) (pa_cons (pe_tup (pa_cons pe_str (pa_cons (pv 5) pa_nil))) (pa_cons (pv 8) pa_nil)))) pa_nil)) (pa_cons pe_str pa_nil)))))
    (pss_cons (ps_set (i := 10) sc_law_known.nd rfl (Or.inl rfl) (pe_op op_catA (pe_tup (pa_cons (pe_tup (pa_cons (pv 6) (pa_cons (pe_op op_catA (pe_tup (pa_cons pe_str pa_nil)) (pv 5)) (pa_cons (pe_op op_catA (pe_tup (pa_cons pe_str (pa_cons (pv 9) pa_nil))) (pv 5)) pa_nil)))) pa_nil)) (pe_callTy call_tuple_of rfl T.n_tuple bo_tuple (pa_cons (pv 4) pa_nil))))
    (pss_one (ps_ret (pe_op op_catA (pe_tup (pa_cons (pe_tup (pa_cons (pv 7) (pa_cons (pv 5) (pa_cons (pe_op op_catA (pe_tup (pa_cons (pv 6) (pa_cons (pe_tup (pa_cons pe_str (pa_cons (pv 10) pa_nil))) pa_nil))) (pv 5)) pa_nil)))) pa_nil)) (pv 10)))))))))))))), ?_⟩
  have lf1 : ("f" : Str).length = 1 := by decide +kernel
  have lx1 : ("x" : Str).length = 1 := by decide +kernel
  refine fun d nd => ?_
  have s0 := same_new (o := .dK []) nd
  obtain ⟨a, us, rfl, ha, hus⟩ := isT_l.mp hv
  have hl := hus.length
  obtain ⟨nd1, _⟩ := goodFs_nodup G.good
  have gm := goodFs_mem G.good
  refine ⟨_, rfl, a, us, rfl, .inr (TK.same s0 _ _ ha), _, rfl, by omega, by omega, ?_⟩
  rw [show (((us.length : Nat) : Int)).toNat = us.length by omega]
  refine for_range (lo := 0) (n := us.length) (fun i σ H' => ∃ (y : Option V), σ = [some (.ref a), some (.int mm), some (.ref d), y, none, none, none, none, none, none, none, none, none] ∧ Same H H' ∧ H' d = some (.dK (nmD 0 ((prog.map nOf).take i))))
    ⟨_, rfl, s0, upd_same⟩ (fun i σ H2 hi h => ?_) (fun σ H2 h => ?_)
  · obtain ⟨y, rfl, k2, ed⟩ := h
    have hi2 : i < prog.length := by omega
    have gt : prog[i]? = some prog[i] := List.getElem?_eq_getElem hi2
    obtain ⟨u, gu, hu⟩ := (hus.tk (TK.same (K := K) k2)).get gt
    obtain ⟨n, ps, b, et, _⟩ := gm prog[i] (List.getElem_mem hi2)
    rw [et] at gt hu
    obtain ⟨af, usf, rfl, haf, husf⟩ := isT_l.mp hu
    obtain ⟨u0, r0, rfl, i0, ir0⟩ := isTs_cons.mp husf
    obtain rfl := isT_w.mp i0
    have ei : (0 : Int) + (i : Int) = (i : Int) := by omega
    rw [ei]
    obtain ⟨h1, h2⟩ := small_log i (by omega)
    have lnm := nmD_len ((prog.map nOf).take i) 0
    rw [List.length_take, List.length_map] at lnm
    have gn : (prog.map nOf)[i]? = some n := by rw [List.getElem?_map, gt]; rfl
    have nin : n ∉ (prog.map nOf).take i := fun z => by
      have hi3 : i < (prog.map nOf).length := by rw [List.length_map]; exact hi2
      have e1 : prog.map nOf = (prog.map nOf).take i ++ n :: (prog.map nOf).drop (i + 1) := by
        conv => lhs; rw [← List.take_append_drop i (prog.map nOf)]
        rw [List.drop_eq_getElem_cons hi3, (List.getElem?_eq_some_iff.mp gn).2]
      rw [e1] at nd1
      exact (List.nodup_append.mp nd1).2.2 n z n (by simp) rfl
    refine ⟨_, rfl, _, rfl, h1, _, _, rfl, rfl, OG.sz (by omega), ?_⟩
    refine ⟨_, rfl, _, rfl, _, rfl, a, us, (i : Int), _, rfl, rfl, TK.same k2 _ _ ha, atI_nat gu, af, _, 0, _, rfl, rfl, haf, atI_of (by decide) rfl, d, _, rfl, DPut.k (k := .inr n) ed (by rw [lnm]; exact szl (by omega)), ?_⟩
    refine ⟨_, rfl, fun b o e => by rw [upd_ne (ne_of_none e nd)]; exact k2 b o e, ?_⟩
    rw [upd_same, putK_new _ (by rw [nmD_val, if_neg nin]), List.take_add_one, gn]
    rw [show (some n).toList = [n] from rfl, nmD_snoc]
    rw [List.length_take, List.length_map, Nat.min_eq_left (Nat.le_of_lt hi2), Nat.zero_add]
    rfl
  · obtain ⟨y, rfl, k2, ed⟩ := h
    rw [hl, show (prog.map nOf).take prog.length = prog.map nOf from List.take_of_length_le (by rw [List.length_map]; exact Nat.le_refl _)] at ed
    refine ⟨Nat.zero_le _, fun F nF => ?_⟩
    have kF := k2.trans (same_new (o := .lst []) nF)
    have hF : H F = none := k2.free nF
    have edF := (same_new (o := .lst []) nF) _ _ ed
    have eF : (upd H2 F (.lst [])) F = some (.lst []) := upd_same
    generalize (upd H2 F (.lst [])) = H3 at kF edF eF ⊢
    refine ⟨_, rfl, a, rfl, ⟨_, TK.same kF _ _ ha⟩, ?_⟩
    have hnm : ∀ h, h ∈ prog.map nOf → valV (nmD 0 (prog.map nOf)) (.inr h) = some (.str (rnF 0 prog h)) := fun h hm => by rw [nmD_val, if_pos hm]; rfl
    refine for_tup (K := K) (a := a) (xs := us) (fun i σ H' => ∃ (y3 y5 y6 y7 : Option V) (vs : List V), σ = [some (.ref a), some (.int mm), some (.ref d), y3, some (.ref F), none, none, none, y5, none, none, y6, y7] ∧ Same H H' ∧ H' d = some (.dK (nmD 0 (prog.map nOf))) ∧ H' F = some (.lst vs) ∧ IsTs K H' ((prog.take i).map (rnT (rnF 0 prog))) vs)
      ⟨_, _, _, _, [], rfl, kF, edF, eF, IsTs.nil⟩ (fun i σ H' _ h => let ⟨_, _, _, _, _, _, z, _⟩ := h; TK.same z _ _ ha) (fun i x σ H4 hx h => ?_) (fun σ H4 h => ?_)
    · obtain ⟨y3, y5, y6, y7, vs, rfl, k4, ed4, eF4, iv⟩ := h
      obtain ⟨t, gt, ht⟩ := hus.tree hx
      have tm := List.mem_of_getElem? gt
      obtain ⟨n, ps, b, rfl, pf, gb, sp⟩ := gm t tm
      have hi : i < prog.length := (List.getElem?_eq_some_iff.mp gt).1
      obtain ⟨af, usf, rfl, haf, husf⟩ := isT_l.mp (ht.tk (TK.same (K := K) k4))
      obtain ⟨u0, r0, rfl, i0, ir0⟩ := isTs_cons.mp husf
      obtain ⟨u1, r1, rfl, i1, ir1⟩ := isTs_cons.mp ir0
      obtain ⟨u2, r2, rfl, i2, ir2⟩ := isTs_cons.mp ir1
      obtain rfl := isTs_nil.mp ir2
      obtain rfl := isT_w.mp i0
      have nm : n ∈ prog.map nOf := List.mem_map.mpr ⟨_, tm, rfl⟩
      have szt := Tr.size_mem tm
      simp only [Tr.size, Tr.sizes] at szt
      have lv := iv.length
      rw [List.length_map, List.length_take] at lv
      refine ⟨af, _, rfl, haf, rfl, _, _, rfl, _, _, rfl, _, _, rfl, rfl, ?_⟩
      refine ⟨_, rfl, .inl ⟨rfl, _, SqL.of eF4⟩, _, rfl, _, rfl, d, .str (rnF 0 prog n), rfl, by rw [← hnm n nm]; exact DGet.k (k := .inr n) ed4, _, rfl, _, rfl, _, rfl, b, u2, d, _, ps.map wOf, cnt prog, rnF 0 prog, rfl, i2, ed4, gb, hdep n ps b tm, by omega, fun h e ns => hnm h (cnt_names e ns), fun v5 H5 s5 i5 => ⟨by show 3 ≤ sizeLine; decide, fun j nj => ?_⟩⟩
      have sj := s5.trans (same_new (o := .tup [.str (rnF 0 prog n), u1, v5]) nj)
      have eFj := sj _ _ eF4
      refine ⟨F, _, _, rfl, rfl, eFj, szl (by omega), ?_⟩
      have t5 : TK K H5 (upd H5 j (.tup [.str (rnF 0 prog n), u1, v5])) := TK.new nj
      have t6 : TK K (upd H5 j (.tup [.str (rnF 0 prog n), u1, v5])) (upd (upd H5 j (.tup [.str (rnF 0 prog n), u1, v5])) F (.lst (vs ++ [.ref j]))) := TK.put (mut_lst eFj)
      have nFj : j ≠ F := fun z => by rw [z] at nj; rw [s5 _ _ eF4] at nj; cases nj
      have nFd : d ≠ F := fun z => by rw [z] at ed4; rw [eF4] at ed4; cases ed4
      refine ⟨_, _, _, _, vs ++ [.ref j], rfl, fun b o e => by rw [upd_ne (ne_of_none e hF)]; exact sj _ _ (k4 b o e), by rw [upd_ne nFd]; exact sj _ _ ed4, upd_same, ?_⟩
      rw [List.take_add_one, gt, List.map_append]
      exact (iv.tk ((TK.same sj).trans t6)).snoc (IsT.tup (SqT.of (by rw [upd_ne nFj]; exact upd_same)) (IsTs.cons IsT.str (IsTs.cons (i1.tk ((TK.same sj).trans t6)) (IsTs.one (i5.tk (t5.trans t6))))))
    · obtain ⟨y3, y5, y6, y7, vs, rfl, k4, ed4, eF4, iv⟩ := h
      rw [hl, List.take_length] at iv
      -- inputs
      refine ⟨_, rfl, mm, rfl, by omega, by omega, fun D nD => ?_⟩
      have hD : H D = none := k4.free nD
      have nDF : F ≠ D := ne_of_none eF4 nD
      rw [show ((mm : Nat) : Int).toNat = mm by omega]
      refine lc_range (lo := 0) (n := mm) (fun i H' => ∃ ys : List V, Same H4 H' ∧ H' D = some (.lst ys) ∧ IsTs K H' (xs i) ys)
        ⟨[], same_new nD, upd_same, IsTs.nil⟩ (fun i H5 hi h => ?_) (fun H5 h => ?_)
      · obtain ⟨ys, s5, eD, iy⟩ := h
        have ei : (0 : Int) + (i : Int) + 1 = ((i + 1 : Nat) : Int) := by omega
        obtain ⟨h1, h2⟩ := small_log (i + 1) (by omega)
        have ly := iy.length
        have lx : (xs i).length = i := by simp [xs]
        refine ⟨rfl, _, rfl, _, _, rfl, rfl, ?_⟩
        dsimp only
        rw [ei]
        refine ⟨_, rfl, h1, _, _, rfl, rfl, OG.sz (by omega), ?_⟩
        refine ⟨ys, eD, szl (by omega), ys ++ [.str (xn i)], fun b o e => by rw [upd_ne (ne_of_none e nD)]; exact s5 b o e, upd_same, ?_⟩
        have : xs (i + 1) = xs i ++ [.w (xn i)] := by simp [xs, List.range_succ]
        rw [this]
        exact (iy.snoc IsT.str).tk (TK.put (mut_lst eD))
      · obtain ⟨ys, s5, eD, iy⟩ := h
        refine ⟨D, ys, rfl, .inl ⟨SqL.of eD, fun l nl => ?_⟩⟩
        have s6 := s5.trans (same_new (o := .tup ys) nl)
        have ix : IsT K (upd H5 l (.tup ys)) (.l (xs mm)) (.ref l) := IsT.tup (SqT.of upd_same) (iy.tk (TK.new nl))
        have iv6 := iv.tk (TK.same (K := K) s6)
        have eF6 := s6 _ _ eF4
        have k6 := k4.trans s6
        have ha6 := TK.same (K := K) k6 _ _ ha
        generalize (upd H5 l (.tup ys)) = H6 at ix iv6 eF6 k6 ha6 ⊢
        clear s6 s5
        obtain ⟨h1, h2⟩ := small_log prog.length (by omega)
        obtain ⟨h3, h4⟩ := small_log (prog.length + 1) (by omega)
        refine ⟨_, rfl, a, us, rfl, .inr ha6, _, rfl, by rw [hl]; exact h1, _, _, rfl, rfl, OG.sz (by rw [hl]; omega), ?_⟩
        refine ⟨_, rfl, a, us, rfl, .inr ha6, _, _, rfl, rfl, ?_⟩
        dsimp only
        rw [hl, show ((prog.length : Nat) : Int) + 1 = ((prog.length + 1 : Nat) : Int) by omega]
        refine ⟨_, rfl, h3, _, _, rfl, rfl, OG.sz (by omega), ?_⟩
        have emN : ("f" : Str) ++ Str.ofString (toString ((prog.length : Nat) : Int)) = mn prog.length := rfl
        have emN1 : ("f" : Str) ++ Str.ofString (toString ((prog.length + 1 : Nat) : Int)) = mn (prog.length + 1) := rfl
        rw [emN, emN1]
        have lx : (xs mm).length = mm := by simp [xs]
        -- body
        refine ⟨_, rfl, by show 2 ≤ sizeLine; decide, fun b1 n1 => ?_⟩
        have z1 := same_new (o := .tup [.str "quote", .str (mn prog.length)]) n1
        have j1 : IsT K (upd H6 b1 (.tup [.str "quote", .str (mn prog.length)])) (qT (.w (mn prog.length))) (.ref b1) := IsT.tup (SqT.of upd_same) (IsTs.cons IsT.str (IsTs.one IsT.str))
        generalize (upd H6 b1 (.tup [.str "quote", .str (mn prog.length)])) = A1 at z1 j1 ⊢
        refine ⟨by show 2 ≤ sizeLine; decide, fun b2 n2 => ?_⟩
        have z2 := same_new (o := .tup [.str "quote", .str "quote"]) n2
        have j2 : IsT K (upd A1 b2 (.tup [.str "quote", .str "quote"])) (qT (.w "quote")) (.ref b2) := IsT.tup (SqT.of upd_same) (IsTs.cons IsT.str (IsTs.one IsT.str))
        generalize (upd A1 b2 (.tup [.str "quote", .str "quote"])) = A2 at z2 j2 ⊢
        refine ⟨by show 2 ≤ sizeLine; decide, fun L nL => ?_⟩
        have z3 := same_new (o := .lst [.ref b2, .str "s"]) nL
        refine ⟨[qT (.w "quote"), .w "s"], _, L, rfl, SqL.of upd_same, IsTs.cons (j2.tk (TK.same z3)) (IsTs.one IsT.str), by decide, fun v4 A4 z4 j4 => ?_⟩
        have y14 := (z2.trans z3).trans z4
        refine ⟨_, rfl, by show 2 ≤ sizeLine; decide, fun b5 n5 => ?_⟩
        have z5 := same_new (o := .tup [.str "quote", .ref l]) n5
        have x5 := (ix.tk (TK.same (K := K) (z1.trans y14))).tk (TK.same z5)
        have j5 : IsT K (upd A4 b5 (.tup [.str "quote", .ref l])) (qT (.l (xs mm))) (.ref b5) := IsT.tup (SqT.of upd_same) (IsTs.cons IsT.str (IsTs.one x5))
        generalize (upd A4 b5 (.tup [.str "quote", .ref l])) = A5 at z5 x5 j5 ⊢
        refine ⟨by show 3 ≤ sizeLine; decide, fun b6 n6 => ?_⟩
        have z6 := same_new (o := .tup [.str "join", v4, .ref b5]) n6
        have j6 : IsT K (upd A5 b6 (.tup [.str "join", v4, .ref b5])) (.l [.w "join", listT [qT (.w "quote"), .w "s"], qT (.l (xs mm))]) (.ref b6) := IsT.tup (SqT.of upd_same) (IsTs.cons IsT.str (IsTs.cons ((j4.tk (TK.same z5)).tk (TK.same z6)) (IsTs.one (j5.tk (TK.same z6)))))
        generalize (upd A5 b6 (.tup [.str "join", v4, .ref b5])) = A6 at z6 j6 ⊢
        refine ⟨by show 3 ≤ sizeLine; decide, fun b7 n7 => ?_⟩
        have z7 := same_new (o := .tup [.str "join", .ref b1, .ref b6]) n7
        have y17 := ((y14.trans z5).trans z6).trans z7
        have j7 : IsT K (upd A6 b7 (.tup [.str "join", .ref b1, .ref b6])) (.l [.w "join", qT (.w (mn prog.length)), .l [.w "join", listT [qT (.w "quote"), .w "s"], qT (.l (xs mm))]]) (.ref b7) := IsT.tup (SqT.of upd_same) (IsTs.cons IsT.str (IsTs.cons (j1.tk (TK.same y17)) (IsTs.one (j6.tk (TK.same z7)))))
        have x7 := (x5.tk (TK.same (K := K) z6)).tk (TK.same z7)
        have Y7 := z1.trans y17
        generalize (upd A6 b7 (.tup [.str "join", .ref b1, .ref b6])) = A7 at z7 y17 j7 x7 Y7 ⊢
        -- tree
        refine ⟨_, rfl, by show 2 ≤ sizeLine; decide, fun c1 m1 => ?_⟩
        have w1 := same_new (o := .tup [.str "quote", .str (mn (prog.length + 1))]) m1
        have g1 : IsT K (upd A7 c1 (.tup [.str "quote", .str (mn (prog.length + 1))])) (qT (.w (mn (prog.length + 1)))) (.ref c1) := IsT.tup (SqT.of upd_same) (IsTs.cons IsT.str (IsTs.one IsT.str))
        generalize (upd A7 c1 (.tup [.str "quote", .str (mn (prog.length + 1))])) = B1 at w1 g1 ⊢
        refine ⟨_, rfl, by show 2 ≤ sizeLine; decide, fun c2 m2 => ?_⟩
        have w2 := same_new (o := .tup [.str "quote", .ref l]) m2
        have g2 : IsT K (upd B1 c2 (.tup [.str "quote", .ref l])) (qT (.l (xs mm))) (.ref c2) := IsT.tup (SqT.of upd_same) (IsTs.cons IsT.str (IsTs.one ((x7.tk (TK.same w1)).tk (TK.same w2))))
        generalize (upd B1 c2 (.tup [.str "quote", .ref l])) = B2 at w2 g2 ⊢
        refine ⟨_, rfl, by show 3 ≤ sizeLine; decide, fun L2 nL2 => ?_⟩
        have w3 := same_new (o := .lst [.ref c1, .ref c2, .ref b7]) nL2
        refine ⟨[qT (.w (mn (prog.length + 1))), qT (.l (xs mm)), .l [.w "join", qT (.w (mn prog.length)), .l [.w "join", listT [qT (.w "quote"), .w "s"], qT (.l (xs mm))]]], _, L2, rfl, SqL.of upd_same, IsTs.cons ((g1.tk (TK.same w2)).tk (TK.same w3)) (IsTs.cons (g2.tk (TK.same w3)) (IsTs.one (((j7.tk (TK.same w1)).tk (TK.same w2)).tk (TK.same w3)))), (show 3 ≤ 100000 by decide), fun v8 B4 w4 g4 => ?_⟩
        refine ⟨by show 3 ≤ sizeLine; decide, fun c5 m5 => ?_⟩
        have w5 := same_new (o := .tup [.str "join", v8, .str "s"]) m5
        have g5 : IsT K (upd B4 c5 (.tup [.str "join", v8, .str "s"])) (treeT (mn prog.length) (prog.length + 1) mm) (.ref c5) := IsT.tup (SqT.of upd_same) (IsTs.cons IsT.str (IsTs.cons (g4.tk (TK.same w5)) (IsTs.one IsT.str)))
        have W5 := (((w1.trans w2).trans w3).trans w4).trans w5
        have x9 := x7.tk (TK.same (K := K) W5)
        generalize (upd B4 c5 (.tup [.str "join", v8, .str "s"])) = B5 at w5 g5 W5 x9 ⊢
        have K5 := k6.trans (Y7.trans W5)
        have eF9 := (Y7.trans W5) _ _ eF6
        have iv9 := iv6.tk (TK.same (K := K) (Y7.trans W5))
        -- knowing
        refine ⟨_, rfl, by show 1 ≤ sizeLine; decide, fun e1 q1 => ?_⟩
        have r1 := same_new (o := .tup [.str "s"]) q1
        refine ⟨_, rfl, catA (as := [.w "s"]) (IsT.tup (SqT.of upd_same) (IsTs.one IsT.str)) (x9.tk (TK.same r1)) (by simp only [List.length_singleton]; omega) fun vp C1 r2 h2 => ?_⟩
        have R2 := r1.trans r2
        refine ⟨_, rfl, by show 2 ≤ sizeLine; decide, fun e2 q2 => ?_⟩
        have r3 := same_new (o := .tup [.str "f0", .ref c5]) q2
        have h3' : IsT K (upd C1 e2 (.tup [.str "f0", .ref c5])) (.l [.w (mn 0), treeT (mn prog.length) (prog.length + 1) mm]) (.ref e2) := IsT.tup (SqT.of upd_same) (IsTs.cons (by rw [← f0_mn]; exact IsT.str) (IsTs.one ((g5.tk (TK.same R2)).tk (TK.same r3))))
        refine ⟨_, rfl, catA (as := [.w (mn 0), treeT (mn prog.length) (prog.length + 1) mm]) h3' ((x9.tk (TK.same R2)).tk (TK.same r3)) (by simp only [List.length_cons, List.length_nil]; omega) fun vb C3 r4 h4' => ?_⟩
        have R4 := (R2.trans r3).trans r4
        refine ⟨by show 3 ≤ sizeLine; decide, fun e5 q5 => ?_⟩
        have r5 := same_new (o := .tup [.str (mn prog.length), vp, vb]) q5
        have h5 : IsT K (upd C3 e5 (.tup [.str (mn prog.length), vp, vb])) (.l [.w (mn prog.length), .l ([.w "s"] ++ xs mm), .l ([.w (mn 0), treeT (mn prog.length) (prog.length + 1) mm] ++ xs mm)]) (.ref e5) := IsT.tup (SqT.of upd_same) (IsTs.cons IsT.str (IsTs.cons (((h2.tk (TK.same r3)).tk (TK.same r4)).tk (TK.same r5)) (IsTs.one (h4'.tk (TK.same r5)))))
        generalize (upd C3 e5 (.tup [.str (mn prog.length), vp, vb])) = C5 at r5 h5 ⊢
        refine ⟨by show 1 ≤ sizeLine; decide, fun e6 q6 => ?_⟩
        have r6 := same_new (o := .tup [.ref e5]) q6
        have h6 : IsT K (upd C5 e6 (.tup [.ref e5])) (.l [.l [.w (mn prog.length), .l ([.w "s"] ++ xs mm), .l ([.w (mn 0), treeT (mn prog.length) (prog.length + 1) mm] ++ xs mm)]]) (.ref e6) := IsT.tup (SqT.of upd_same) (IsTs.one (h5.tk (TK.same r6)))
        have R6 := (R4.trans r5).trans r6
        have eF10 := R6 _ _ eF9
        have iv10 := iv9.tk (TK.same (K := K) R6)
        have x10 := x9.tk (TK.same (K := K) R6)
        generalize (upd C5 e6 (.tup [.ref e5])) = C6 at r6 h6 R6 eF10 iv10 x10 ⊢
        refine ⟨_, rfl, F, vs, rfl, .inl ⟨SqL.of eF10, fun l2 nl2 => ?_⟩⟩
        refine newT (Q := fun v Hv => rCatA K (.ref e6) v Hv _) iv10 (fun v7 C7 r7 h7 => ?_) l2 nl2
        refine catA (h6.tk (TK.same r7)) h7 (by simp only [List.length_singleton, List.length_map]; omega) fun vk C8 r8 h8 => ?_
        have eK : ([Tr.l [.w (mn prog.length), .l ([.w "s"] ++ xs mm), .l ([.w (mn 0), treeT (mn prog.length) (prog.length + 1) mm] ++ xs mm)]] ++ prog.map (rnT (rnF 0 prog))) = knowT prog mm := rfl
        rw [eK] at h8
        have x11 := (x10.tk (TK.same (K := K) r7)).tk (TK.same r8)
        -- the front
        refine ⟨_, rfl, _, rfl, _, rfl, _, rfl, by show 2 ≤ sizeLine; decide, fun f1 o1 => ?_⟩
        have t1 := same_new (o := .tup [.str "quote", vk]) o1
        have d1 : IsT K (upd C8 f1 (.tup [.str "quote", vk])) (qT (.l (knowT prog mm))) (.ref f1) := IsT.tup (SqT.of upd_same) (IsTs.cons IsT.str (IsTs.one (h8.tk (TK.same t1))))
        generalize (upd C8 f1 (.tup [.str "quote", vk])) = D1 at t1 d1 ⊢
        refine ⟨by show 2 ≤ sizeLine; decide, fun f2 o2 => ?_⟩
        have t2 := same_new (o := .tup [.str (mn prog.length), .ref f1]) o2
        refine ⟨_, rfl, catA (as := [.w (mn prog.length), qT (.l (knowT prog mm))]) (IsT.tup (SqT.of upd_same) (IsTs.cons IsT.str (IsTs.one (d1.tk (TK.same t2))))) ((x11.tk (TK.same t1)).tk (TK.same t2)) (by simp only [List.length_cons, List.length_nil]; omega) fun v9 D3 t3 d3 => ?_⟩
        have T3 := (t1.trans t2).trans t3
        refine ⟨by show 3 ≤ sizeLine; decide, fun f4 o4 => ?_⟩
        have t4 := same_new (o := .tup [.str (mn (prog.length + 1)), .ref l, v9]) o4
        have d4 : IsT K (upd D3 f4 (.tup [.str (mn (prog.length + 1)), .ref l, v9])) (ffT (mn prog.length) (prog.length + 1) (.l (knowT prog mm)) mm) (.ref f4) := IsT.tup (SqT.of upd_same) (IsTs.cons IsT.str (IsTs.cons ((x11.tk (TK.same T3)).tk (TK.same t4)) (IsTs.one (d3.tk (TK.same t4)))))
        generalize (upd D3 f4 (.tup [.str (mn (prog.length + 1)), .ref l, v9])) = D4 at t4 d4 ⊢
        refine ⟨by show 1 ≤ sizeLine; decide, fun f5 o5 => ?_⟩
        have t5 := same_new (o := .tup [.ref f4]) o5
        have lkn : (knowT prog mm).length = prog.length + 1 := by simp [knowT, rnP_len]
        refine ⟨_, rfl, catA (as := [ffT (mn prog.length) (prog.length + 1) (.l (knowT prog mm)) mm]) (IsT.tup (SqT.of upd_same) (IsTs.one (d4.tk (TK.same t5)))) (((h8.tk (TK.same T3)).tk (TK.same t4)).tk (TK.same t5)) (by simp only [List.length_singleton]; omega) fun v' H' t6 d6 => ?_⟩
        refine q v' H' ((K5.trans R6).trans (((r7.trans r8).trans T3).trans ((t4.trans t5).trans t6))) ?_
        have eo : ownT prog = [ffT (mn prog.length) (prog.length + 1) (.l (knowT prog mm)) mm] ++ knowT prog mm := by
          unfold ownT fillP
          rw [show nPar prog - 1 = mm by omega, lkn]
          have e1 : nPar (knowT prog mm) - 1 = mm := by simp [knowT, nPar, xs]
          rw [e1]; rfl
        rw [eo]; exact d6

/-! ### _law_any -/
def anyN : List Str := ["main", "q", "f0", "zz", "f", "b9"]
def fiveP : List Str := ["q", "x1", "s", "zz", "e"]
def cOf (cs : List (Str × Nat)) : List (Str × Int) := spW ++ cs.map fun p => (p.1, (p.2 : Int))
theorem anyN_facts : ∀ s ∈ anyN, special s = false ∧ sw s = true ∧ s.cps.toList ≠ [] ∧ s.length ≤ 600 ∧ (isNum s = true → (PySem.intText? (figs s)).isSome = true) ∧ s ≠ "quote" := by decide +kernel
theorem anyN_fits : ∀ s ∈ anyN, ∀ m < 7, 1 ≤ m → nameFits s false (m : Nat) = true := by decide +kernel
theorem fiveP_facts : ∀ k < 6, parsFit ((fiveP.take k).map .w) = true ∧ (∀ s ∈ fiveP.take k, sw s = true) := by decide +kernel
theorem anyN_nodup : anyN.Nodup := by decide +kernel
theorem anyN_ok {s : Str} (h : s ∈ anyN) : NameOk s := by
  obtain ⟨_, _, h3, h4, h5, _⟩ := anyN_facts s h
  exact ⟨h3, h4, fun e => Option.isSome_iff_exists.mp (h5 e)⟩
theorem map_wOf (l : List Str) : (l.map Tr.w).map wOf = l := by
  rw [List.map_map]; exact (List.map_congr_left fun _ _ => rfl).trans (List.map_id l)
theorem lkI_map {cs : List (Str × Nat)} : (cs.map (·.1)).Nodup → ∀ p ∈ cs, OR.lkI (cs.map fun p => (p.1, (p.2 : Int))) p.1 = some (p.2 : Int) := by
  induction cs with
  | nil => intro _ p hp; cases hp
  | cons x r ih =>
    intro hn p hp
    rw [List.map_cons, List.nodup_cons] at hn
    unfold OR.lkI at ih ⊢
    rw [List.map_cons, List.find?_cons]
    rcases List.mem_cons.mp hp with z | z
    · rw [z]; simp
    · have : ¬ x.1 = p.1 := fun e => hn.1 (by rw [e]; exact List.mem_map_of_mem z)
      rw [decide_eq_false this]
      exact ih hn.2 p z
theorem cOf_ok {cs : List (Str × Nat)} (hn : (cs.map (·.1)).Nodup) (hm : ∀ p ∈ cs, p.1 ∈ anyN ∧ p.2 ≤ 5) : CntOk (cOf cs) cs := by
  refine ⟨fun h e => ?_, fun p hp => ?_⟩
  · unfold cOf
    rw [lkI_app]
    unfold special at e
    cases q : OR.lkI spW h with
    | none => rw [q] at e; cases e
    | some i => rfl
  · obtain ⟨h1, h2, _, _, _, h6⟩ := anyN_facts p.1 (hm p hp).1
    refine ⟨?_, h2, (hm p hp).2, h6⟩
    unfold cOf
    rw [lkI_app, lk_none h1]
    exact lkI_map hn p hp
def fnOk (c : List (Str × Int)) (p : Str × Nat) (t : Tr) : Prop := ∃ e, t = .l [.w p.1, .l ((fiveP.take p.2).map .w), e] ∧ goodE (fiveP.take p.2) c e = true ∧ e.sok = true ∧ e.depth ≤ 7 ∧ e.size ≤ be 3
theorem fold_fn {c : List (Str × Int)} : ∀ {cs : List (Str × Nat)} {ts : List Tr} {acc : List (Str × Int)}, Paired (fnOk c) cs ts → (cs.map (·.1)).Nodup → (∀ p ∈ cs, OR.lkI acc p.1 = none) → (∀ p ∈ cs, p.2 ≤ 5) → ts.foldl addC acc = acc ++ cs.map fun p => (p.1, (p.2 : Int))
  | _, _, acc, .nil, _, _, _ => by simp
  | _, _, acc, .cons (a := p) (l₁ := cs) f t, hn, ha, h5 => by
    obtain ⟨e, rfl, _⟩ := f
    rw [List.map_cons, List.nodup_cons] at hn
    have l5 : ((fiveP.take p.2).map Tr.w).length = p.2 := by
      have := h5 p List.mem_cons_self
      rw [List.length_map, List.length_take, show fiveP.length = 5 from rfl]; omega
    have ex : addC acc (.l [.w p.1, .l ((fiveP.take p.2).map .w), e]) = acc ++ [(p.1, (p.2 : Int))] := by
      simp only [addC]
      rw [ha p List.mem_cons_self, l5]; rfl
    rw [List.foldl_cons, ex, fold_fn t hn.2 (fun q hq => ?_) fun q hq => h5 q (List.mem_cons_of_mem _ hq)]
    · simp
    · rw [lkI_app, ha q (List.mem_cons_of_mem _ hq)]
      have : ¬ p.1 = q.1 := fun z => hn.1 (by rw [z]; exact List.mem_map_of_mem hq)
      simp [OR.lkI, this]
theorem paired_mem {α β : Type} {F : α → β → Prop} : ∀ {as : List α} {bs : List β}, Paired F as bs → ∀ b ∈ bs, ∃ a ∈ as, F a b
  | _, _, .nil, b, h => absurd h List.not_mem_nil
  | _, _, .cons f t, b, h => by
    rcases List.mem_cons.mp h with z | z
    · rw [z]; exact ⟨_, List.mem_cons_self, f⟩
    · obtain ⟨a, ha, fa⟩ := paired_mem t b z
      exact ⟨a, List.mem_cons_of_mem _ ha, fa⟩
theorem fn_names {c : List (Str × Int)} : ∀ {cs : List (Str × Nat)} {ts : List Tr}, Paired (fnOk c) cs ts → ts.map nOf = cs.map (·.1)
  | _, _, .nil => rfl
  | _, _, .cons f t => by
    obtain ⟨e, rfl, _⟩ := f
    rw [List.map_cons, List.map_cons, fn_names t]; rfl
theorem any_good {cs : List (Str × Nat)} {ts : List Tr} (hp : Paired (fnOk (cOf cs)) cs ts) (hn : (cs.map (·.1)).Nodup) (hm : ∀ p ∈ cs, p.1 ∈ anyN ∧ p.2 ≤ 5) (h1 : 1 ≤ cs.length) (h6 : cs.length ≤ 6) : GoodP ts ∧ Tr.sizes ts ≤ 100000 := by
  have hl := paired_len hp
  have hc : cnt ts = cOf cs := fold_fn hp hn (fun p hq => lk_none (anyN_facts p.1 (hm p hq).1).1) fun p hq => (hm p hq).2
  have hsz : Tr.sizes ts ≤ 100000 := by
    have := Tr.sizes_le (ts := ts) (n := 10000) fun t ht => by
      obtain ⟨p, hq, e, rfl, _, _, _, hz⟩ := paired_mem hp t ht
      have b3 : be 3 = 2562 := rfl
      have sw' : Tr.sizes ((fiveP.take p.2).map .w) ≤ 5 := by
        have := Tr.sizes_le (ts := (fiveP.take p.2).map .w) (n := 1) fun t ht => by
          obtain ⟨s, _, rfl⟩ := List.mem_map.mp ht
          exact Nat.le_refl _
        rw [List.length_map, List.length_take, show fiveP.length = 5 from rfl] at this
        omega
      simp only [Tr.size, Tr.sizes]; omega
    have : ts.length * 10000 ≤ 6 * 10000 := Nat.mul_le_mul_right _ (by omega)
    omega
  refine ⟨⟨by omega, by omega, by omega, fun n ps b ht => ?_, ?_⟩, hsz⟩
  · obtain ⟨p, hq, e, et, _⟩ := paired_mem hp _ ht
    cases et
    exact anyN_ok (hm p hq).1
  · rw [hc]
    refine goodFs_of ts [] (fun t ht => ?_) (by simpa [fn_names hp] using hn)
    obtain ⟨p, hq, e, rfl, ge, _⟩ := paired_mem hp t ht
    have := (hm p hq).2
    exact ⟨_, _, _, rfl, anyN_fits p.1 (hm p hq).1 ts.length (by omega) (by omega), (fiveP_facts p.2 (by omega)).1, by rw [map_wOf]; exact ge⟩
theorem isTs_strs {K : PySem.W.Frag} {H : Hp} : ∀ ss : List Str, IsTs K H (ss.map .w) (ss.map V.str)
  | [] => IsTs.nil
  | s :: ss => IsTs.cons IsT.str (isTs_strs ss)
def spAny (K : PySem.W.Frag) : Sp := fun vs H Q _ => ∃ (h d : Addr) (ds : List Int), vs = [.ref h] ∧ Hnd H h d ds ∧
  ∀ (cs : List (Str × Nat)) (ts : List Tr) (v : V) (H' : Hp), Paired (fnOk (cOf cs)) cs ts → (cs.map (·.1)).Nodup → (∀ p ∈ cs, p.1 ∈ anyN ∧ 1 ≤ p.2 ∧ p.2 ≤ 5) → 1 ≤ cs.length → cs.length ≤ 6 → IsT K H' (.l ts) v → Kp (At h) H H' → Hnd H' h d ds → Q v H'
theorem ok_any {P : Program} {w : World} {K : PySem.W.Frag} {mg : Str → Option Value} {base : Heap} (T : Top K mg) {k : Nat} (G_law_take : FnOk P w K mg base CX0 1 T.a_law_take T.d_law_take ["_law_hand", "_law_many"] spTake)
    (G_law_expression : FnOk P w K mg base CX0 10 T.a_law_expression T.d_law_expression ["_law_hand", "_law_parameters", "_law_calls", "_law_depth"] (spExp K 4)) : FnOk P w K mg base CX0 (k + 11) T.a_law_any T.d_law_any ["_law_hand"] (spAny K) := by
  refine T.F_law_any.ok sc_law_any (fun vs H Q E h => ?_) (fun cdv A outer s H vs Q E hr h => ?_)
  · obtain ⟨h, d, ds, rfl, _⟩ := h
    rfl
  obtain ⟨h, d, ds, rfl, hh, q⟩ := h
  refine ⟨_, (pss_cons (ps_set (i := 1) sc_law_any.nd rfl (Or.inl rfl) (pe_op op_add pe_int (pe_call G_law_take (hr.mono (by omega)) rfl T.m_law_take T.F_law_take.kp T.b_law_take .nil pass0 (pa_cons (pv 0) (pa_cons pe_int pa_nil)))))
    (pss_cons (ps_set (i := 2) sc_law_any.nd rfl (Or.inl rfl) (pe_slice sl_list (pe_lst (pa_cons pe_str (pa_cons pe_str (pa_cons pe_str (pa_cons pe_str (pa_cons pe_str (pa_cons pe_str pa_nil))))))) po_none (po_some (pe_op op_add pe_int (pe_call G_law_take (hr.mono (by omega)) rfl T.m_law_take T.F_law_take.kp T.b_law_take .nil pass0 (pa_cons (pv 0) (pa_cons pe_int pa_nil)))))))
    (pss_cons (ps_set (i := 3) sc_law_any.nd rfl (Or.inl rfl) (pe_lst (pa_cons (pe_tup (pa_cons pe_str (pa_cons (pv 1) pa_nil))) pa_nil)))
    (pss_cons (ps_for PassesOwn.never rfl (pi_list (pe_slice sl_list (pv 2) (po_some pe_int) po_none)) (pg_name (i := 4) sc_law_any.nd rfl (Or.inl rfl)) (pss_one (ps_expr (pe_bm PySem.F.plainAttrs_list PySem.F.slot_list_append PySem.F.type_list_append mt_append (pv 3) (pa_cons (pe_tup (pa_cons (pv 4) (pa_cons (pe_op op_add pe_int (pe_call G_law_take (hr.mono (by omega)) rfl T.m_law_take T.F_law_take.kp T.b_law_take .nil pass0 (pa_cons (pv 0) (pa_cons pe_int pa_nil)))) pa_nil))) pa_nil)))))
    (pss_cons (ps_set (i := 5) sc_law_any.nd rfl (Or.inl rfl) (pe_lst pa_nil))
    (pss_cons (ps_for PassesOwn.never rfl (pi_list (pv 3)) (pg_tup (by rfl) (pgs_cons (pg_name (i := 4) sc_law_any.nd rfl (Or.inl rfl)) (pgs_cons (pg_name (i := 6) sc_law_any.nd rfl (Or.inl rfl)) pgs_nil))) (pss_cons (ps_set (i := 7) sc_law_any.nd rfl (Or.inl rfl) (pe_slice sl_tupA (pe_tup (pa_cons pe_str (pa_cons pe_str (pa_cons pe_str (pa_cons pe_str (pa_cons pe_str pa_nil)))))) po_none (po_some (pv 6))))
    (pss_one (ps_expr (pe_bm PySem.F.plainAttrs_list PySem.F.slot_list_append PySem.F.type_list_append mt_append (pv 5) (pa_cons (pe_tup (pa_cons (pv 4) (pa_cons (pv 7) (pa_cons (pe_call G_law_expression (hr.mono (by omega)) rfl T.m_law_expression T.F_law_expression.kp T.b_law_expression .nil pass0 (pa_cons (pv 0) (pa_cons (pv 7) (pa_cons (pv 3) (pa_cons pe_int pa_nil))))) pa_nil)))) pa_nil))))))
    (pss_one (ps_ret (pe_callTy call_tuple_of rfl T.n_tuple bo_tuple (pa_cons (pv 5) pa_nil)))))))))), ?_⟩
  refine ⟨_, rfl, h, d, ds, 5, rfl, hh, by decide, fun r1 H1 r1a r1b k1 hh1 => ⟨_, _, rfl, rfl, ?_⟩⟩
  obtain ⟨mny, emny⟩ : ∃ mny : Nat, (1 : Int) + r1 = (mny : Int) := ⟨(1 + r1).toNat, by omega⟩
  dsimp only
  rw [emny]
  refine ⟨by show 6 ≤ sizeLine; decide, fun N0 nN0 => ?_⟩
  have eN0 : (upd H1 N0 (.lst (anyN.map V.str))) N0 = some (.lst (anyN.map V.str)) := upd_same
  have nN0h := hh1.neH nN0
  have kN := k1.new (o := .lst (anyN.map V.str)) nN0
  have hN := hh1.new (o := .lst (anyN.map V.str)) nN0
  refine ⟨_, rfl, h, d, ds, 6, rfl, hN, by decide, fun r2 H2 r2a r2b k2 hh2 => ⟨_, _, rfl, rfl, _, rfl, N0, anyN.map V.str, rfl, SqL.of (k2 _ _ nN0h eN0), fun N1 nN1 => ?_⟩⟩
  obtain ⟨n, en⟩ : ∃ n : Nat, (1 : Int) + r2 = (n : Int) := ⟨(1 + r2).toNat, by omega⟩
  have hn6 : n ≤ 6 := by omega
  have hn1 : 1 ≤ n := by omega
  have ecut : cutV (anyN.map V.str) none (some (1 + r2)) = (anyN.take n).map V.str := by
    unfold cutV
    rw [en, HT.sIx_nat, HT.sIx_none, Nat.sub_zero, List.drop_zero, show (anyN.map V.str).length = 6 from rfl, Nat.min_eq_left hn6, List.map_take]
  rw [ecut]
  have kN1 := (kN.trans k2).new (o := .lst ((anyN.take n).map V.str)) nN1
  have hN1 := hh2.new (o := .lst ((anyN.take n).map V.str)) nN1
  have eN1 : (upd H2 N1 (.lst ((anyN.take n).map V.str))) N1 = some (.lst ((anyN.take n).map V.str)) := upd_same
  generalize (upd H2 N1 (.lst ((anyN.take n).map V.str))) = H3 at kN1 hN1 eN1 ⊢
  refine ⟨_, rfl, by show 2 ≤ sizeLine; decide, fun t0 nt0 => ⟨by show 1 ≤ sizeLine; decide, fun cl ncl => ?_⟩⟩
  have z1 := same_new (o := .tup [.str "main", .int mny]) nt0
  have z2 := same_new (o := .lst [.ref t0]) ncl
  have et0 := z2 _ _ upd_same
  have ecl : (upd (upd H3 t0 (.tup [.str "main", .int mny])) cl (.lst [.ref t0])) cl = some (.lst [.ref t0]) := upd_same
  have k4 := kN1.trans (Kp.of (z1.trans z2))
  have hh4 := hN1.same (z1.trans z2)
  have eN4 := (z1.trans z2) _ _ eN1
  have clh : cl ≠ h := (hN1.same z1).neH ncl
  have cld : cl ≠ d := (hN1.same z1).neD ncl
  have clN : H cl = none := Kp.fresh (kN1.trans (Kp.of z1)) (fun z => clh z) ncl
  generalize (upd (upd H3 t0 (.tup [.str "main", .int mny])) cl (.lst [.ref t0])) = H4 at et0 ecl k4 hh4 eN4 ⊢
  -- the other names
  refine ⟨_, rfl, _, rfl, N1, _, rfl, SqL.of eN4, fun N2 nN2 => ?_⟩
  have ecut2 : cutV ((anyN.take n).map V.str) (some 1) none = ((anyN.take n).drop 1).map V.str := by
    unfold cutV
    have e1 : HT.sIx ((anyN.take n).map V.str).length 0 (some 1) = 1 := by
      have := HT.sIx_nat ((anyN.take n).map V.str).length 0 1
      rw [show ((1 : Nat) : Int) = 1 from rfl] at this
      rw [this, List.length_map, List.length_take, show anyN.length = 6 from rfl]; omega
    rw [e1, HT.sIx_none, List.take_of_length_le (by rw [List.length_drop]; exact Nat.le_refl _), List.map_drop]
  rw [ecut2]
  have k5 := k4.new (o := .lst (((anyN.take n).drop 1).map V.str)) nN2
  have hh5 := hh4.new (o := .lst (((anyN.take n).drop 1).map V.str)) nN2
  have y1 := same_new (o := .lst (((anyN.take n).drop 1).map V.str)) nN2
  have eN2 : (upd H4 N2 (.lst (((anyN.take n).drop 1).map V.str))) N2 = some (.lst (((anyN.take n).drop 1).map V.str)) := upd_same
  have ecl5 := y1 _ _ ecl
  have et5 := y1 _ _ et0
  have N2h := hh4.neH nN2
  have N2cl : N2 ≠ cl := (ne_of_none ecl nN2).symm
  generalize (upd H4 N2 (.lst (((anyN.take n).drop 1).map V.str))) = H5 at k5 hh5 eN2 ecl5 et5 ⊢
  have lns : (anyN.take n).length = n := by rw [List.length_take, show anyN.length = 6 from rfl]; omega
  refine ⟨N2, rfl, ⟨_, SqL.of eN2⟩, ?_⟩
  refine for_list (K := K) (a := N2) (xs := ((anyN.take n).drop 1).map V.str) (fun i σ H' => ∃ (cs : List (Str × Nat)) (cvs : List V) (y : Option V), σ = [some (.ref h), some (.int mny), some (.ref N1), some (.ref cl), y, none, none, none] ∧ Kp (At h) H H' ∧ Hnd H' h d ds ∧ H' N2 = some (.lst (((anyN.take n).drop 1).map V.str)) ∧ H' cl = some (.lst cvs) ∧ Paired (callV K H') cs cvs ∧ cs.map (·.1) = (anyN.take n).take (i + 1) ∧ ∀ p ∈ cs, 1 ≤ p.2 ∧ p.2 ≤ 5)
    ⟨[("main", mny)], _, _, rfl, k5, hh5, eN2, ecl5, .cons ⟨t0, rfl, SqT.of et5⟩ .nil, ?_, fun p hp => by rw [List.mem_singleton.mp hp]; dsimp only; omega⟩ (fun i σ H' _ h => let ⟨_, _, _, _, _, _, z, _⟩ := h; SqL.of z) (fun i x σ H6 hx h => ?_) (fun σ H6 h => ?_)
  · rw [List.take_take, Nat.min_eq_left hn1]; rfl
  · obtain ⟨cs, cvs, y, rfl, k6, hh6, eN6, ecl6, prs, enm, hb⟩ := h
    rw [List.getElem?_map] at hx
    obtain ⟨s', gs, rfl⟩ : ∃ s', ((anyN.take n).drop 1)[i]? = some s' ∧ V.str s' = x := by
      cases hh : ((anyN.take n).drop 1)[i]? with
      | none => rw [hh] at hx; cases hx
      | some s' => rw [hh] at hx; exact ⟨s', rfl, Option.some.inj hx⟩
    have lcs := congrArg List.length enm
    rw [List.length_map, List.length_take, lns] at lcs
    have lcv := paired_len prs
    refine ⟨_, rfl, .inl ⟨rfl, _, SqL.of ecl6⟩, _, rfl, _, rfl, h, d, ds, 3, rfl, hh6, by decide, fun r7 H7 r7a r7b k7 hh7 => ⟨_, _, rfl, rfl, by show 2 ≤ sizeLine; decide, fun g ng => ?_⟩⟩
    obtain ⟨m7, em7⟩ : ∃ m7 : Nat, (1 : Int) + r7 = (m7 : Int) := ⟨(1 + r7).toNat, by omega⟩
    dsimp only
    rw [em7]
    have sg := same_new (o := .tup [.str s', .int m7]) ng
    have ecl7 := sg _ _ (k7 _ _ clh ecl6)
    refine ⟨cl, _, _, rfl, rfl, ecl7, szl (by omega), ?_⟩
    have tk : TK K H6 (upd (upd H7 g (.tup [.str s', .int m7])) cl (.lst (cvs ++ [.ref g]))) := ((hh6.tk k7).trans (TK.new ng)).trans (TK.put (mut_lst ecl7))
    have gcl : g ≠ cl := (ne_of_none (k7 _ _ clh ecl6) ng).symm
    refine ⟨cs ++ [(s', m7)], _, _, rfl, ((k6.trans k7).new ng).put (.inr clN), (hh7.new ng).put clh cld, ?_, upd_same, paired_snoc (paired_mono (fun p v ⟨a, e1, e2⟩ => ⟨a, e1, tk _ _ e2⟩) prs) ⟨g, rfl, SqT.of (by rw [upd_ne gcl]; exact upd_same)⟩, ?_, fun p hp => ?_⟩
    · rw [upd_ne N2cl]; exact sg _ _ (k7 _ _ N2h eN6)
    · rw [List.map_append, enm, List.take_add_one (i := i + 1)]
      rw [List.getElem?_drop, Nat.add_comm] at gs
      rw [gs]; rfl
    · rcases List.mem_append.mp hp with z | z
      · exact hb p z
      · rw [List.mem_singleton.mp z]; dsimp only; omega
  · obtain ⟨cs, cvs, y, rfl, k6, hh6, eN6, ecl6, prs, enm, hb⟩ := h
    have enm2 : cs.map (·.1) = anyN.take n := by
      rw [enm]
      refine List.take_of_length_le ?_
      rw [List.length_map, List.length_drop, lns]; omega
    have lcs : cs.length = n := by
      have := congrArg List.length enm2
      rw [List.length_map, lns] at this; exact this
    have lcv := paired_len prs
    have nd : (cs.map (·.1)).Nodup := by rw [enm2]; exact List.Nodup.sublist (List.take_sublist n anyN) anyN_nodup
    have hm : ∀ p ∈ cs, p.1 ∈ anyN ∧ 1 ≤ p.2 ∧ p.2 ≤ 5 := fun p hp => ⟨List.mem_of_mem_take (by rw [← enm2]; exact List.mem_map_of_mem hp), (hb p hp).1, (hb p hp).2⟩
    have C := cOf_ok nd fun p hp => ⟨(hm p hp).1, (hm p hp).2.2⟩
    refine ⟨Nat.zero_le _, fun F nF => ?_⟩
    have kF := k6.new (o := .lst []) nF
    have hF := hh6.new (o := .lst []) nF
    have sF := same_new (o := .lst []) nF
    have eF : (upd H6 F (.lst [])) F = some (.lst []) := upd_same
    have eclF := sF _ _ ecl6
    have prF := paired_mono (fun p v (z : callV K H6 p v) => (let ⟨a, e1, e2⟩ := z; ⟨a, e1, TK.new nF _ _ e2⟩ : callV K (upd H6 F (.lst [])) p v)) prs
    have nFh := hh6.neH nF
    have nFd := hh6.neD nF
    have nFcl : cl ≠ F := ne_of_none ecl6 nF
    have hFn : H F = none := Kp.fresh k6 (fun z => nFh z) nF
    generalize (upd H6 F (.lst [])) = H7 at kF hF eF eclF prF ⊢
    refine ⟨_, rfl, cl, rfl, ⟨_, SqL.of eclF⟩, ?_⟩
    refine for_list (K := K) (a := cl) (xs := cvs) (fun i σ H' => ∃ (ts : List Tr) (vs : List V) (y4 y6 y7 : Option V), σ = [some (.ref h), some (.int mny), some (.ref N1), some (.ref cl), y4, some (.ref F), y6, y7] ∧ Kp (At h) H H' ∧ Hnd H' h d ds ∧ H' cl = some (.lst cvs) ∧ Paired (callV K H') cs cvs ∧ H' F = some (.lst vs) ∧ IsTs K H' ts vs ∧ Paired (fnOk (cOf cs)) (cs.take i) ts)
      ⟨[], [], _, _, _, rfl, kF, hF, eclF, prF, eF, IsTs.nil, .nil⟩ (fun i σ H' _ h => let ⟨_, _, _, _, _, _, _, _, z, _⟩ := h; SqL.of z) (fun i x σ H8 hx h => ?_) (fun σ H8 h => ?_)
    · obtain ⟨ts, vs, y4, y6, y7, rfl, k8, hh8, ecl8, pr8, eF8, its, pfn⟩ := h
      have hi : i < cs.length := by rw [lcv]; exact (List.getElem?_eq_some_iff.mp hx).1
      have gp : cs[i]? = some cs[i] := List.getElem?_eq_getElem hi
      obtain ⟨x', gx, a, ex, ha⟩ := prd_get pr8 gp
      rw [hx] at gx
      cases gx
      subst ex
      obtain ⟨p1, p2, p3⟩ := hm cs[i] (List.getElem_mem hi)
      generalize cs[i] = pr at gp ha p1 p2 p3
      obtain ⟨nm, mm⟩ := pr
      dsimp only at ha p1 p2 p3
      have lts := its.length
      have lpf := paired_len pfn
      rw [List.length_take] at lpf
      refine ⟨a, _, rfl, ha, rfl, _, _, rfl, _, _, rfl, rfl, ?_⟩
      refine ⟨by show 5 ≤ sizeLine; decide, fun g ng => ?_⟩
      have sg := same_new (o := .tup (fiveP.map V.str)) ng
      have ig : IsT K (upd H8 g (.tup (fiveP.map V.str))) (.l (fiveP.map .w)) (.ref g) := IsT.tup (SqT.of upd_same) (isTs_strs fiveP)
      refine ⟨_, rfl, _, rfl, slA ig fun vp H9 s9 i9 => ?_⟩
      rw [cutT_take (show mm ≤ (fiveP.map Tr.w).length from p3), ← List.map_take] at i9
      have sg9 := sg.trans s9
      have ecl9 := sg9 _ _ ecl8
      have eF9 := sg9 _ _ eF8
      have hh9 := hh8.same sg9
      have l5 : (fiveP.take mm).length ≤ 12 := by rw [List.length_take, show fiveP.length = 5 from rfl]; omega
      refine ⟨_, rfl, .inl ⟨rfl, _, SqL.of eF9⟩, _, rfl, _, rfl, _, rfl, _, rfl, _, rfl, h, d, ds, fiveP.take mm, vp, cl, cvs, cs, cOf cs, 3, rfl, by omega, by omega, hh9, i9, (fiveP_facts mm (by omega)).2, l5, ecl9, clh, paired_mono (fun p v (z : callV K H8 p v) => (let ⟨a, e1, e2⟩ := z; ⟨a, e1, TK.same sg9 _ _ e2⟩ : callV K H9 p v)) pr8, C, by omega, fun e v H10 g1 g2 g3 g4 iv k10 hh10 => ⟨by show 3 ≤ sizeLine; decide, fun j nj => ?_⟩⟩
      have sj := same_new (o := .tup [.str nm, vp, v]) nj
      have eF10 := k10 _ _ nFh eF9
      have eFj := sj _ _ eF10
      refine ⟨F, _, _, rfl, rfl, eFj, szl (by omega), ?_⟩
      have jF : j ≠ F := (ne_of_none eF10 nj).symm
      have tj : TK K H10 (upd (upd H10 j (.tup [.str nm, vp, v])) F (.lst (vs ++ [.ref j]))) := (TK.new nj).trans (TK.put (mut_lst eFj))
      have t10 := hh9.tk (K := K) k10
      have t810 := ((TK.same (K := K) sg9).trans t10).trans tj
      refine ⟨ts ++ [.l [.w nm, .l ((fiveP.take mm).map .w), e]], vs ++ [.ref j], _, _, _, rfl, (((k8.trans (Kp.of sg9)).trans k10).new nj).put (.inr hFn), (hh10.new nj).put nFh nFd, ?_, paired_mono (fun p v (z : callV K H8 p v) => (let ⟨a, e1, e2⟩ := z; ⟨a, e1, t810 _ _ e2⟩ : callV K _ p v)) pr8, upd_same, (its.tk t810).snoc (IsT.tup (SqT.of (by rw [upd_ne jF]; exact upd_same)) (IsTs.cons IsT.str (IsTs.cons ((i9.tk t10).tk tj) (IsTs.one (iv.tk tj))))), ?_⟩
      · rw [upd_ne nFcl]; exact sj _ _ (k10 _ _ clh ecl9)
      · rw [List.take_add_one, gp]
        exact paired_snoc pfn ⟨e, rfl, g1, g2, g3, g4⟩
    · obtain ⟨ts, vs, y4, y6, y7, rfl, k8, hh8, ecl8, pr8, eF8, its, pfn⟩ := h
      rw [← lcv, List.take_length] at pfn
      refine ⟨_, rfl, F, vs, rfl, .inl ⟨SqL.of eF8, fun l nl => ?_⟩⟩
      exact q cs ts _ _ pfn nd hm (by omega) (by omega) (IsT.tup (SqT.of upd_same) (its.tk (TK.new nl))) (k8.new nl) (hh8.new nl)

/-! ### the made program: signs, depth -/
theorem ixS_le (h : Str) : ∀ l : List Str, ixS h l ≤ l.length
  | [] => Nat.le_refl _
  | s :: l => by
    simp only [ixS]
    split
    · exact Nat.zero_le _
    · have := ixS_le h l; simp only [List.length_cons]; omega
theorem rnF_sw {prog : List Tr} (hl : prog.length ≤ 30) (h : Str) : sw (rnF 0 prog h) = true := by
  unfold rnF
  have := ixS_le h (prog.map nOf)
  rw [List.length_map] at this
  exact (small_mn _ (by omega)).2.2.2.2.2.2
theorem ren_sd (f : Str → Str) (hf : ∀ h, sw (f h) = true) : ∀ n : Nat, ∀ e : Tr, e.size < n → e.sok = true → (ren f e).sok = true ∧ (ren f e).depth = e.depth := by
  intro n
  induction n with
  | zero => intro e h; exact absurd h (Nat.not_lt_zero _)
  | succ n ih =>
    intro e hz hs
    cases e with
    | w s => exact ⟨hs, rfl⟩
    | l ts =>
      cases ts with
      | nil => exact ⟨hs, rfl⟩
      | cons x args =>
        cases x with
        | l _ => exact ⟨hs, rfl⟩
        | w h =>
          by_cases e : h = "quote"
          · simp only [ren]; rw [if_pos e]; exact ⟨hs, rfl⟩
          · rw [ren_call e]
            have hs2 := Tr.sok_l.mp hs
            have ha : ∀ a ∈ args, a.size < n := fun a ha => by have := Tr.size_mem ha; simp only [Tr.size, Tr.sizes] at hz; omega
            have dd : ∀ as : List Tr, (∀ a ∈ as, a.size < n ∧ a.sok = true) → Tr.depths (as.map (ren f)) = Tr.depths as := by
              intro as
              induction as with
              | nil => intro _; rfl
              | cons a as iha =>
                intro h
                simp only [List.map_cons, Tr.depths]
                rw [(ih a (h a List.mem_cons_self).1 (h a List.mem_cons_self).2).2, iha fun b hb => h b (List.mem_cons_of_mem _ hb)]
            refine ⟨Tr.sok_l.mpr fun t ht => ?_, ?_⟩
            · rcases List.mem_cons.mp ht with z | z
              · rw [z]
                show sw (nwH f h) = true
                unfold nwH; split
                · exact hs2 (.w h) List.mem_cons_self
                · exact hf h
              · obtain ⟨a, hm, rfl⟩ := List.mem_map.mp z
                exact (ih a (ha a hm) (hs2 a (List.mem_cons_of_mem _ hm))).1
            · simp only [Tr.depth, Tr.depths]
              rw [dd args fun a hm => ⟨ha a hm, hs2 a (List.mem_cons_of_mem _ hm)⟩]
theorem xn_sw : ∀ k < 10, sw (xn k) = true := by decide +kernel
theorem xs_sok {m : Nat} (h : m < 10) : ∀ t ∈ xs m, t.sok = true := fun t ht => by
  obtain ⟨k, hk, rfl⟩ := List.mem_map.mp ht
  have := List.mem_range.mp hk
  exact xn_sw k (by omega)
theorem xs_depths (m : Nat) : Tr.depths (xs m) = 0 := by
  have := Tr.depths_le (ts := xs m) (n := 0) fun t ht => by
    obtain ⟨k, hk, rfl⟩ := List.mem_map.mp ht
    exact Nat.le_refl _
  omega
theorem own_eq {prog : List Tr} {mm : Nat} (hmm : mm + 1 = nPar prog) : ownT prog = ffT (mn prog.length) (prog.length + 1) (.l (knowT prog mm)) mm :: knowT prog mm := by
  unfold ownT fillP
  have lkn : (knowT prog mm).length = prog.length + 1 := by simp [knowT, rnP_len]
  rw [show nPar prog - 1 = mm by omega, lkn]
  have e1 : nPar (knowT prog mm) - 1 = mm := by simp [knowT, nPar, xs]
  rw [e1]; rfl
theorem tree_sd {main : Str} {number mm : Nat} (h1 : sw main = true) (h2 : number < 45) (h3 : mm < 10) : (treeT main number mm).sok = true ∧ (treeT main number mm).depth ≤ 20 := by
  have w1 : sw "join" = true ∧ sw "quote" = true ∧ sw "s" = true := by decide +kernel
  have w2 := (small_mn number h2).2.2.2.2.2.2
  have w3 : Tr.soks (xs mm) = true := Tr.soks_iff.mpr (xs_sok h3)
  constructor
  · simp only [treeT, listT, qT, Tr.sok, Tr.soks, w1.1, w1.2.1, w1.2.2, w2, w3, h1, Bool.and_true, Bool.true_and]
  · simp only [treeT, listT, qT, Tr.depth, Tr.depths, xs_depths]; decide
theorem own_sd {cs : List (Str × Nat)} {ts : List Tr} {c : List (Str × Int)} {mm : Nat} (hp : Paired (fnOk c) cs ts) (hm : ∀ p ∈ cs, p.1 ∈ anyN ∧ 1 ≤ p.2 ∧ p.2 ≤ 5) (hl : ts.length ≤ 30) (hmm : mm + 1 = nPar ts) (h3 : mm < 10) : (Tr.l (ownT ts)).sok = true ∧ (Tr.l (ownT ts)).depth ≤ 100 := by
  have wN := (small_mn ts.length (by omega)).2.2.2.2.2.2
  have wN1 := (small_mn (ts.length + 1) (by omega)).2.2.2.2.2.2
  have w0 := (small_mn 0 (by omega)).2.2.2.2.2.2
  have wq : sw "quote" = true ∧ sw "s" = true := by decide +kernel
  obtain ⟨tr1, tr2⟩ := tree_sd (main := mn ts.length) (number := ts.length + 1) (mm := mm) wN (by omega) h3
  have xsk := xs_sok h3
  have kn : ∀ t ∈ knowT ts mm, t.sok = true ∧ t.depth ≤ 25 := fun t ht => by
    unfold knowT at ht
    rcases List.mem_cons.mp ht with z | z
    · subst z
      constructor
      · simp only [Tr.sok, Tr.soks, wN, w0, wq.2, tr1, Tr.soks_iff.mpr xsk, Bool.and_true, Bool.true_and]
      · simp only [Tr.depth, Tr.depths, xs_depths]; omega
    · obtain ⟨u, hu, rfl⟩ := List.mem_map.mp z
      obtain ⟨p, hq, e, rfl, _, es, ed, _⟩ := paired_mem hp u hu
      obtain ⟨r1, r2⟩ := ren_sd (rnF 0 ts) (rnF_sw hl) _ e (Nat.lt_succ_self _) es
      have h5 := (hm p hq).2.2
      have wp : Tr.soks ((fiveP.take p.2).map .w) = true := Tr.soks_iff.mpr fun t ht => by
        obtain ⟨s, hs, rfl⟩ := List.mem_map.mp ht
        exact (fiveP_facts p.2 (by omega)).2 s hs
      have dp : Tr.depths ((fiveP.take p.2).map .w) = 0 := by
        have := Tr.depths_le (ts := (fiveP.take p.2).map .w) (n := 0) fun t ht => by
          obtain ⟨s, hs, rfl⟩ := List.mem_map.mp ht
          exact Nat.le_refl _
        omega
      constructor
      · simp only [rnT, Tr.sok, Tr.soks, rnF_sw hl, wp, r1, Bool.and_true]
      · simp only [rnT, Tr.depth, Tr.depths, dp, r2]; omega
  have ksok : Tr.soks (knowT ts mm) = true := Tr.soks_iff.mpr fun t ht => (kn t ht).1
  have kdep := Tr.depths_le (ts := knowT ts mm) (n := 25) fun t ht => (kn t ht).2
  rw [own_eq hmm]
  constructor
  · simp only [ffT, Tr.sok, Tr.soks, wN, wN1, wq.1, ksok, Tr.soks_iff.mpr xsk, Bool.and_true, Bool.true_and]
  · simp only [ffT, Tr.depth, Tr.depths, xs_depths]; omega
/-! ### law -/
def spLaw (K : PySem.W.Frag) : Sp := fun vs H Q _ => ∃ (a : Addr) (ns : List Int), vs = [.ref a] ∧ SqL K H a (ns.map V.int) ∧ ns.length ≤ 63 ∧ ∀ H', Q (.bl true) H'
theorem ok_law {P : Program} {w : World} {K : PySem.W.Frag} {mg : Str → Option Value} {base : Heap} (T : Top K mg) (hw : T.prm = w.params) : FnOk P w K mg base CX0 20 T.a_law T.d_law ["_law_script"] (spLaw K) := by
  have G_law_draws := ok_draws (P := P) (w := w) (base := base) T (k := 0)
  have G_law_take := ok_take (P := P) (w := w) (base := base) T (k := 0)
  have G_law_value := ok_val (P := P) (w := w) (base := base) T G_law_take 3
  have G_law_expression := ok_exp (P := P) (w := w) (base := base) T G_law_take G_law_value 4
  have G_law_renamed := ok_lren (P := P) (w := w) (base := base) T 12
  have G_law_listed := ok_llist (P := P) (w := w) (base := base) T (k := 0)
  have G_law_known := ok_known (P := P) (w := w) (base := base) T (k := 0) G_law_renamed G_law_listed
  have G_law_any := ok_any (P := P) (w := w) (base := base) T (k := 0) G_law_take G_law_expression
  have G_is_word := ok_is_word (P := P) (w := w) (base := base) T (k := 0)
  have G_has_head := ok_has_head (P := P) (w := w) (base := base) T (k := 0) G_is_word
  have G_counts_of := ok_counts_of (P := P) (w := w) (base := base) T hw (k := 0) G_has_head
  have G_name_fits := ok_name_fits (P := P) (w := w) (base := base) T hw (k := 0)
  have G_parameters_fit := ok_parameters_fit (P := P) (w := w) (base := base) T hw (k := 0) G_is_word
  have G_body_fits := ok_body_fits (P := P) (w := w) (base := base) T (k := 0) G_is_word
  have G_check_program := ok_check_program (P := P) (w := w) (base := base) T (k := 0) G_is_word G_has_head G_counts_of G_name_fits G_parameters_fit G_body_fits
  have G_inputs_of := ok_inputs_of (P := P) (w := w) (base := base) T (k := 0) G_check_program
  have G_made_name := ok_made_name (P := P) (w := w) (base := base) T (k := 0)
  have G_made_parameters := ok_made_parameters (P := P) (w := w) (base := base) T (k := 0)
  have G_renamed_expression := ok_renamed_expression (P := P) (w := w) (base := base) T (k := 0)
  have G_renamed := ok_renamed (P := P) (w := w) (base := base) T (k := 0) G_check_program G_made_name G_renamed_expression
  have G_joined := ok_joined (P := P) (w := w) (base := base) T (k := 0) G_made_name G_renamed
  have G_with_main := ok_with_main (P := P) (w := w) (base := base) T (k := 0) G_made_name
  have G_fill_function := ok_fill_function (P := P) (w := w) (base := base) T (k := 0) G_made_name G_made_parameters
  have G_fill := ok_fill (P := P) (w := w) (base := base) T (k := 0) G_check_program G_inputs_of G_fill_function
  have G_quoted := ok_quoted (P := P) (w := w) (base := base) T (k := 0)
  have G_listed := ok_listed (P := P) (w := w) (base := base) T (k := 0) G_quoted
  have G_filled_tree := ok_filled_tree (P := P) (w := w) (base := base) T (k := 0) G_quoted G_listed G_made_name G_made_parameters
  have G_know_own := ok_know_own (P := P) (w := w) (base := base) T (k := 0) G_check_program G_inputs_of G_joined G_made_name G_made_parameters G_filled_tree G_with_main G_fill
  refine T.F_law.ok sc_law (fun vs H Q E h => ?_) (fun cdv A outer s H vs Q E hr h => ?_)
  · obtain ⟨a, ns, rfl, _⟩ := h
    rfl
  obtain ⟨a, ns, rfl, hS, h63, q⟩ := h
  refine ⟨_, (pss_cons (ps_set (i := 1) sc_law.nd rfl (Or.inl rfl) (pe_lst (pa_cons (pe_call G_law_draws (hr.mono (by omega)) rfl T.m_law_draws T.F_law_draws.kp T.b_law_draws .nil pass0 (pa_cons (pv 0) (pa_cons pe_int pa_nil))) (pa_cons pe_int pa_nil))))
    (pss_cons (ps_set (i := 2) sc_law.nd rfl (Or.inl rfl) (pe_call G_law_any (hr.mono (by omega)) rfl T.m_law_any T.F_law_any.kp T.b_law_any .nil pass0 (pa_cons (pv 1) pa_nil)))
    (pss_cons (ps_set (i := 3) sc_law.nd rfl (Or.inl rfl) (pe_call G_law_known (hr.mono (by omega)) rfl T.m_law_known T.F_law_known.kp T.b_law_known .nil pass0 (pa_cons (pv 2) (pa_cons (pe_op op_sub (pe_callB call_len_seq rfl T.n_len bo_len (pa_cons (pe_ix ix_tup (pe_ix ix_tup (pv 2) pe_int (fun _ _ => rfl)) pe_int (fun _ _ => rfl)) pa_nil)) pe_int) pa_nil))))
    (pss_cons (ps_set (i := 4) sc_law.nd rfl (Or.inl rfl) (pe_call G_know_own (hr.mono (by omega)) rfl T.m_know_own T.F_know_own.kp T.b_know_own .nil pass0 (pa_cons (pv 2) pa_nil)))
    (pss_one (ps_ret (pe_and (pe_callB call_isi rfl T.n_isinstance bo_isinstance (pa_cons (pv 4) (pa_cons (pe_bltn (v := .ty "tuple") rfl T.n_tuple bo_tuple rfl) pa_nil))) (pe_and (pe_cmpR (op_eqT (un2 hr)) (pv 4) (pv 3) (nomark _)) (pe_one (pe_cmpR (op_eqT (un2 hr)) (pe_call G_know_own (hr.mono (by omega)) rfl T.m_know_own T.F_know_own.kp T.b_know_own .nil pass0 (pa_cons (pv 2) pa_nil)) (pv 3) (nomark _))))))))))), ?_⟩
  -- the hand
  refine ⟨_, rfl, a, ns, 300, rfl, hS, h63, by decide, fun d H1 ds s1 nd ed ld bd' => ⟨by show 2 ≤ sizeLine; decide, fun h nh => ?_⟩⟩
  have hh : Hnd (upd H1 h (.lst [.ref d, .int 0])) h d ds := ⟨⟨0, upd_same, Int.le_refl 0⟩, by rw [upd_ne (ne_of_none ed nh)]; exact ed, ne_of_none ed nh, fun x hx => (bd' x hx).1⟩
  generalize (upd H1 h (.lst [.ref d, .int 0])) = H2 at hh ⊢
  -- the program
  refine ⟨_, rfl, h, d, ds, rfl, hh, fun cs ts v H3 pfn nd hm l1 l6 iv k3 hh3 => ?_⟩
  obtain ⟨G, gsz⟩ := any_good pfn nd (fun p hp => ⟨(hm p hp).1, (hm p hp).2.2⟩) l1 l6
  have lts := paired_len pfn
  have hsh : ∃ nm ps e r, ts = .l [.w nm, .l ps, e] :: r ∧ 1 ≤ ps.length ∧ ps.length ≤ 5 := by
    cases pfn with
    | nil => simp at l1
    | cons f t =>
      obtain ⟨e, rfl, _⟩ := f
      rename_i p b as bs
      obtain ⟨_, b1, b2⟩ := hm _ List.mem_cons_self
      refine ⟨_, _, e, _, rfl, ?_⟩
      rw [List.length_map, List.length_take, show fiveP.length = 5 from rfl]; omega
  obtain ⟨nm, ps, e0, r0, ets, p1, p5⟩ := hsh
  have hnp : nPar ts = ps.length := by rw [ets]; rfl
  obtain ⟨mm, hmm⟩ : ∃ mm, mm + 1 = ps.length := ⟨ps.length - 1, by omega⟩
  have hdep : ∀ n ps b, Tr.l [.w n, .l ps, b] ∈ ts → b.depth < 12 := fun n ps b hb => by
    obtain ⟨p, _, e, et, _, _, ed, _⟩ := paired_mem pfn _ hb
    cases et
    omega
  have GK := know_good G (by omega) (by omega) (by omega) (by omega)
  obtain ⟨sok, sdep⟩ := own_sd pfn hm (by omega) (mm := mm) (by omega) (by omega)
  obtain ⟨at_, us, rfl, hat, hus⟩ := isT_l.mp iv
  have ivt := iv
  rw [ets] at hus
  obtain ⟨u, us', rfl, i0, _⟩ := isTs_cons.mp hus
  obtain ⟨af, usf, rfl, haf, husf⟩ := isT_l.mp i0
  obtain ⟨u0, r1, rfl, _, ir0⟩ := isTs_cons.mp husf
  obtain ⟨u1, r2, rfl, i1, _⟩ := isTs_cons.mp ir0
  obtain ⟨ap, usp, rfl, hap, husp⟩ := isT_l.mp i1
  have lp := husp.length
  -- what is due
  refine ⟨_, rfl, _, rfl, at_, _, 0, _, rfl, rfl, hat, atI_of (by decide) rfl, af, _, 1, _, rfl, rfl, haf, atI_of (by decide) rfl, ap, usp, rfl, .inr hap, _, _, rfl, rfl, ?_⟩
  dsimp only
  rw [show ((usp.length : Nat) : Int) - 1 = ((mm : Nat) : Int) by omega]
  refine ⟨ts, _, mm, rfl, ivt, G, by omega, by omega, by omega, by omega, hdep, fun vd H4 s4 id => ?_⟩
  -- what is made
  have it4 := ivt.tk (TK.same (K := K) s4)
  refine ⟨_, rfl, ts, _, rfl, it4, G, by omega, by omega, by omega, by omega, GK, fun vm H5 s5 im => ?_⟩
  obtain ⟨am, um, rfl, ham, hum⟩ := isT_l.mp im
  refine ⟨_, rfl, _, _, _, _, true, rfl, .ty "tuple", tyX_tup ham, kty k_tt, _, rfl, ?_⟩
  have id5 := id.tk (TK.same (K := K) s5)
  refine ⟨_, rfl, _, rfl, .l (ownT ts), .l (ownT ts), im, id5, sok, sok, by omega, _, rfl, ?_⟩
  rw [decide_eq_true rfl]
  refine ⟨_, rfl, ts, _, rfl, it4.tk (TK.same s5), G, by omega, by omega, by omega, by omega, GK, fun vm2 H6 s6 im2 => ?_⟩
  refine ⟨_, rfl, .l (ownT ts), .l (ownT ts), im2, id5.tk (TK.same s6), sok, sok, by omega, ?_⟩
  rw [decide_eq_true rfl]
  exact q H6

theorem law_end {l : PySem.W.OpenLaw} {w : World} {K : PySem.W.Frag} {mg : Str → Option Value} {fa : Addr} (T : {T : Top K mg // T.prm = w.params}) (hmg : mg "law" = some (.ref fa)) :
    ∃ fd : FuncData, (∀ (s : Shared) (u : Value), BindsTo s fd ⟨[u], []⟩ [("_law_script", u)]) ∧ ∀ base : Heap, K.In base → base.Ns mainGlobals mg → FnOk l.prog w K mg base CX0 20 fa fd ["_law_script"] (spLaw K) := by
  have e := hmg.symm.trans T.1.m_law
  cases e
  refine ⟨T.1.d_law, fun s v => ?_, fun base _ _ => ok_law T.1 T.2⟩
  obtain ⟨oc, od, kV, doc, pm, an, cdv, ct, osl, e, lk, hcd⟩ := T.1.F_law.ex
  rw [e]
  exact .of_eq rfl

theorem walk {l : PySem.W.OpenLaw} {q : Program} {loose : List Str} {XP : (Str → Option Value) → Heap → Prop} {YP : World → Heap → Prop} {d : DefRec} {K : Params → PySem.W.Frag} (hn : l.most = some 63) (hdf : d.params.defaults = [])
    (hY : ∀ (w : World) (h : Heap), YP w h → (K w.params).In h)
    (F : ∀ (w : World) (mg : Str → Option Value) (fa : Addr) (h : Heap), (K w.params).In h → h.Ns mainGlobals mg → mg d.name = some (.ref fa) →
      ∃ fd : FuncData, (∀ (s : Shared) (u : Value), BindsTo s fd ⟨[u], []⟩ [("_law_script", u)]) ∧ ∀ base : Heap, (K w.params).In base → base.Ns mainGlobals mg → FnOk l.prog w (K w.params) mg base CX0 20 fa fd ["_law_script"] (spLaw (K w.params))) :
    PySem.W.WalkO q loose XP YP l.row.toRowW d [] (fun f vs => PySem.call f vs) :=
  L2.walk_of (n := 63) (k := 20) (x := "_law_script") (CX := fun _ => CX0) (sp := fun w => spLaw (K w.params)) hn (by decide) hdf ⟨rfl, by decide, by decide⟩ hY F (fun _ _ a ns hl _ hS => ⟨a, ns, rfl, hS, hl, fun _ => rfl⟩) fun _ _ _ _ _ z => z
end K24
open PySem PySem.W PyProof.Rows
set_option maxRecDepth 100000 in
set_option maxHeartbeats 0 in
theorem PySem.Challenge.cw_ownglass_k24_made_tree_holds : PySem.Challenge.rw_ownglass_k24_made_tree.Holds := by
  w_on; o_law; k_head; (case hw => w_witness2)
  k_fill
  refine K24.walk (l := PySem.Challenge.rw_ownglass_k24_made_tree) rfl rfl (fun w h Y => PySem.W.kIn_of Y) ?F
  case F =>
    intro w mg fa h KX G hmg
    refine K24.law_end ?T hmg
    refine' K24.all_mk w.params KX G ?qa0 ?ql0 ?qc0 ?qk0 ?qa1 ?ql1 ?qc1 ?qk1 ?qa2 ?ql2 ?qc2 ?qk2 ?qa3 ?ql3 ?qc3 ?qk3 ?qa4 ?ql4 ?qc4 ?qk4 ?qa5 ?ql5 ?qc5 ?qk5 ?qa6 ?ql6 ?qc6 ?qk6 ?qa7 ?ql7 ?qc7 ?qk7 ?qa8 ?ql8 ?qc8 ?qk8 ?qa9 ?ql9 ?qc9 ?qk9 ?qa10 ?ql10 ?qc10 ?qk10 ?qa11 ?ql11 ?qc11 ?qk11 ?qa12 ?ql12 ?qc12 ?qk12 ?qa13 ?ql13 ?qc13 ?qk13 ?qa14 ?ql14 ?qc14 ?qk14 ?qa15 ?ql15 ?qc15 ?qk15 ?qa16 ?ql16 ?qc16 ?qk16 ?qa17 ?ql17 ?qc17 ?qk17 ?qa18 ?ql18 ?qc18 ?qk18 ?qa19 ?ql19 ?qc19 ?qk19 ?qa20 ?ql20 ?qc20 ?qk20 ?qa21 ?ql21 ?qc21 ?qk21 ?qa22 ?ql22 ?qc22 ?qk22 ?qa23 ?ql23 ?qc23 ?qk23 ?qa24 ?ql24 ?qc24 ?qk24 ?qa25 ?ql25 ?qc25 ?qk25 ?qa26 ?ql26 ?qc26 ?qk26 ?qa27 ?ql27 ?qc27 ?qk27 ?qa28 ?ql28 ?qc28 ?qk28 ?qz0 ?qz1 ?qz2 ?qz3 ?qz4 ?qz5 ?qz6 ?qz7 ?qz8 ?qz9 ?qg0 ?qs0 ?qt0 ?qu0 ?qv0 ?qg1 ?qg2 ?qg3 ?qs3 ?qu3 ?qg4
    (case qa0 => k_is)
    (case ql0 => k_is)
    (case qc0 => k_is)
    (case qk0 => k_is)
    (case qa1 => k_is)
    (case ql1 => k_is)
    (case qc1 => k_is)
    (case qk1 => k_is)
    (case qa2 => k_is)
    (case ql2 => k_is)
    (case qc2 => k_is)
    (case qk2 => k_is)
    (case qa3 => k_is)
    (case ql3 => k_is)
    (case qc3 => k_is)
    (case qk3 => k_is)
    (case qa4 => k_is)
    (case ql4 => k_is)
    (case qc4 => k_is)
    (case qk4 => k_is)
    (case qa5 => k_is)
    (case ql5 => k_is)
    (case qc5 => k_is)
    (case qk5 => k_is)
    (case qa6 => k_is)
    (case ql6 => k_is)
    (case qc6 => k_is)
    (case qk6 => k_is)
    (case qa7 => k_is)
    (case ql7 => k_is)
    (case qc7 => k_is)
    (case qk7 => k_is)
    (case qa8 => k_is)
    (case ql8 => k_is)
    (case qc8 => k_is)
    (case qk8 => k_is)
    (case qa9 => k_is)
    (case ql9 => k_is)
    (case qc9 => k_is)
    (case qk9 => k_is)
    (case qa10 => k_is)
    (case ql10 => k_is)
    (case qc10 => k_is)
    (case qk10 => k_is)
    (case qa11 => k_is)
    (case ql11 => k_is)
    (case qc11 => k_is)
    (case qk11 => k_is)
    (case qa12 => k_is)
    (case ql12 => k_is)
    (case qc12 => k_is)
    (case qk12 => k_is)
    (case qa13 => k_is)
    (case ql13 => k_is)
    (case qc13 => k_is)
    (case qk13 => k_is)
    (case qa14 => k_is)
    (case ql14 => k_is)
    (case qc14 => k_is)
    (case qk14 => k_is)
    (case qa15 => k_is)
    (case ql15 => k_is)
    (case qc15 => k_is)
    (case qk15 => k_is)
    (case qa16 => k_is)
    (case ql16 => k_is)
    (case qc16 => k_is)
    (case qk16 => k_is)
    (case qa17 => k_is)
    (case ql17 => k_is)
    (case qc17 => k_is)
    (case qk17 => k_is)
    (case qa18 => k_is)
    (case ql18 => k_is)
    (case qc18 => k_is)
    (case qk18 => k_is)
    (case qa19 => k_is)
    (case ql19 => k_is)
    (case qc19 => k_is)
    (case qk19 => k_is)
    (case qa20 => k_is)
    (case ql20 => k_is)
    (case qc20 => k_is)
    (case qk20 => k_is)
    (case qa21 => k_is)
    (case ql21 => k_is)
    (case qc21 => k_is)
    (case qk21 => k_is)
    (case qa22 => k_is)
    (case ql22 => k_is)
    (case qc22 => k_is)
    (case qk22 => k_is)
    (case qa23 => k_is)
    (case ql23 => k_is)
    (case qc23 => k_is)
    (case qk23 => k_is)
    (case qa24 => k_is)
    (case ql24 => k_is)
    (case qc24 => k_is)
    (case qk24 => k_is)
    (case qa25 => k_is)
    (case ql25 => k_is)
    (case qc25 => k_is)
    (case qk25 => k_is)
    (case qa26 => k_is)
    (case ql26 => k_is)
    (case qc26 => k_is)
    (case qk26 => k_is)
    (case qa27 => k_is)
    (case ql27 => k_is)
    (case qc27 => k_is)
    (case qk27 => k_is)
    (case qa28 => k_is)
    (case ql28 => k_is)
    (case qc28 => k_is)
    (case qk28 => k_is)
    (case qz0 => k_is)
    (case qz1 => k_is)
    (case qz2 => k_is)
    (case qz3 => k_is)
    (case qz4 => k_is)
    (case qz5 => k_is)
    (case qz6 => k_is)
    (case qz7 => k_is)
    (case qz8 => k_is)
    (case qz9 => k_is)
    (case qg0 => k_is)
    (case qs0 => k_is)
    (case qt0 => k_keys)
    (case qu0 => rfl)
    (case qv0 => rfl)
    (case qg1 => k_is)
    (case qg2 => k_is)
    (case qg3 => k_is)
    (case qs3 => k_is)
    (case qu3 => rfl)
    (case qg4 => k_is)
#print axioms PySem.Challenge.cw_ownglass_k24_made_tree_holds

