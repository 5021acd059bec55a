import PyProof.Rows.All
import Wide.All
import OpenK.AllK
import Wide.FinOn
import HandS.ForMost
import HandS.IsInst
import HandS.TupAny
import HandS.TupLe
import HandS.Codes
import HandS.RevRange
import HandS.Style
import HandS.NoneIn

import HandS.Zip
import HandS.ListItems
import KE.KDictZip
import PySem.Challenge.RW_ownglass_k03_same_values
set_option Elab.async false
set_option linter.all false
set_option maxRecDepth 100000
set_option maxHeartbeats 4000000
/-! ### trees: words and lists -/
namespace OG
open PySem L2
inductive Tr where
  | w (s : Str)
  | l (ts : List Tr)
namespace Tr
mutual
def size : Tr → Nat
  | .w _ => 1
  | .l ts => sizes ts + 1
def sizes : List Tr → Nat
  | [] => 0
  | t :: ts => t.size + sizes ts
end
mutual
def depth : Tr → Nat
  | .w _ => 0
  | .l ts => depths ts + 1
def depths : List Tr → Nat
  | [] => 0
  | t :: ts => max t.depth (depths ts)
end
mutual
def beq : Tr → Tr → Bool
  | .w s, .w t => decide (s = t)
  | .l xs, .l ys => beqs xs ys
  | .w _, .l _ => false
  | .l _, .w _ => false
def beqs : List Tr → List Tr → Bool
  | [], [] => true
  | x :: xs, y :: ys => x.beq y && beqs xs ys
  | [], _ :: _ => false
  | _ :: _, [] => false
end
mutual
theorem beq_iff : ∀ a b : Tr, a.beq b = true ↔ a = b
  | .w s, .w t => by simp [beq]
  | .l xs, .l ys => by simp [beq, beqs_iff xs ys]
  | .w _, .l _ => by simp [beq]
  | .l _, .w _ => by simp [beq]
theorem beqs_iff : ∀ a b : List Tr, beqs a b = true ↔ a = b
  | [], [] => by simp [beqs]
  | x :: xs, y :: ys => by simp [beqs, beq_iff x y, beqs_iff xs ys]
  | [], _ :: _ => by simp [beqs]
  | _ :: _, [] => by simp [beqs]
end
instance : DecidableEq Tr := fun a b => decidable_of_iff (a.beq b = true) (beq_iff a b)
theorem size_pos : ∀ t : Tr, 0 < t.size
  | .w _ => by simp [size]
  | .l _ => by simp [size]
theorem sizes_append : ∀ xs ys : List Tr, sizes (xs ++ ys) = sizes xs + sizes ys
  | [], _ => by simp [sizes]
  | x :: xs, ys => by simp [sizes, sizes_append xs ys]; omega
theorem length_le_sizes : ∀ ts : List Tr, ts.length ≤ sizes ts
  | [] => by simp [sizes]
  | t :: ts => by have := length_le_sizes ts; have := size_pos t; simp [sizes]; omega
theorem size_mem : ∀ {ts : List Tr} {t : Tr}, t ∈ ts → t.size ≤ sizes ts
  | [], _, h => by cases h
  | x :: xs, t, h => by
    rcases List.mem_cons.mp h with e | e
    · subst e; simp [sizes]
    · have := size_mem e; simp [sizes]; omega
theorem depth_mem : ∀ {ts : List Tr} {t : Tr}, t ∈ ts → t.depth ≤ depths ts
  | [], _, h => by cases h
  | x :: xs, t, h => by
    rcases List.mem_cons.mp h with e | e
    · subst e; simp [depths]; omega
    · have := depth_mem e; simp [depths]; omega
theorem depths_le : ∀ {ts : List Tr} {n : Nat}, (∀ t ∈ ts, t.depth ≤ n) → depths ts ≤ n
  | [], _, _ => by simp [depths]
  | x :: xs, n, h => by
    have h1 := h x List.mem_cons_self
    have h2 := depths_le (ts := xs) (n := n) fun t ht => h t (List.mem_cons_of_mem _ ht)
    simp [depths]; omega
theorem sizes_le : ∀ {ts : List Tr} {n : Nat}, (∀ t ∈ ts, t.size ≤ n) → sizes ts ≤ ts.length * n
  | [], _, _ => by simp [sizes]
  | x :: xs, n, h => by
    have h1 := h x List.mem_cons_self
    have h2 := sizes_le (ts := xs) (n := n) fun t ht => h t (List.mem_cons_of_mem _ ht)
    simp only [sizes, List.length_cons, Nat.add_mul]; omega
end Tr
/-! ### a value that is a tree -/
mutual
def IsT (K : PySem.W.Frag) (H : Hp) : Tr → V → Prop
  | .w s, v => v = .str s
  | .l ts, v => ∃ a vs, v = .ref a ∧ SqT K H a vs ∧ IsTs K H ts vs
def IsTs (K : PySem.W.Frag) (H : Hp) : List Tr → List V → Prop
  | [], vs => vs = []
  | t :: ts, vs => ∃ v r, vs = v :: r ∧ IsT K H t v ∧ IsTs K H ts r
end
section
variable {K : PySem.W.Frag} {H H' : Hp}
theorem isT_w {s : Str} {v : V} : IsT K H (.w s) v ↔ v = .str s := by simp [IsT]
theorem isT_l {ts : List Tr} {v : V} : IsT K H (.l ts) v ↔ ∃ a vs, v = .ref a ∧ SqT K H a vs ∧ IsTs K H ts vs := by simp [IsT]
theorem isTs_nil {vs : List V} : IsTs K H [] vs ↔ vs = [] := by simp [IsTs]
theorem isTs_cons {t : Tr} {ts : List Tr} {vs : List V} : IsTs K H (t :: ts) vs ↔ ∃ v r, vs = v :: r ∧ IsT K H t v ∧ IsTs K H ts r := by simp [IsTs]
/-- what holds tuples goes on holding them -/
def TK (K : PySem.W.Frag) (H H' : Hp) : Prop := ∀ a xs, SqT K H a xs → SqT K H' a xs
theorem TK.refl : TK K H H := fun _ _ h => h
theorem TK.trans {H1 H2 : Hp} (a : TK K H H1) (b : TK K H1 H2) : TK K H H2 := fun x xs h => b x xs (a x xs h)
mutual
theorem IsT.tk (k : TK K H H') : ∀ {t : Tr} {v : V}, IsT K H t v → IsT K H' t v
  | .w s, v, h => isT_w.mpr (isT_w.mp h)
  | .l ts, v, h => by
    obtain ⟨a, vs, e, s, r⟩ := isT_l.mp h
    exact isT_l.mpr ⟨a, vs, e, k a vs s, IsTs.tk k r⟩
theorem IsTs.tk (k : TK K H H') : ∀ {ts : List Tr} {vs : List V}, IsTs K H ts vs → IsTs K H' ts vs
  | [], vs, h => isTs_nil.mpr (isTs_nil.mp h)
  | t :: ts, vs, h => by
    obtain ⟨v, r, e, h1, h2⟩ := isTs_cons.mp h
    exact isTs_cons.mpr ⟨v, r, e, IsT.tk k h1, IsTs.tk k h2⟩
end
theorem IsTs.length : ∀ {ts : List Tr} {vs : List V}, IsTs K H ts vs → vs.length = ts.length
  | [], vs, h => by rw [isTs_nil.mp h]; rfl
  | t :: ts, vs, h => by
    obtain ⟨v, r, rfl, _, h2⟩ := isTs_cons.mp h
    simp [IsTs.length h2]
theorem IsTs.get : ∀ {ts : List Tr} {vs : List V} {i : Nat} {t : Tr}, IsTs K H ts vs → ts[i]? = some t → ∃ v, vs[i]? = some v ∧ IsT K H t v
  | [], _, _, _, _, e => by simp at e
  | t :: ts, vs, 0, t', h, e => by
    obtain ⟨v, r, rfl, h1, _⟩ := isTs_cons.mp h
    simp at e; subst e
    exact ⟨v, by simp, h1⟩
  | t :: ts, vs, i + 1, t', h, e => by
    obtain ⟨v, r, rfl, _, h2⟩ := isTs_cons.mp h
    obtain ⟨u, e1, e2⟩ := IsTs.get (i := i) h2 (by simpa using e)
    exact ⟨u, by simpa using e1, e2⟩
theorem IsTs.tree {ts : List Tr} {vs : List V} {i : Nat} {v : V} (h : IsTs K H ts vs) (e : vs[i]? = some v) : ∃ t, ts[i]? = some t ∧ IsT K H t v := by
  have hi : i < ts.length := by rw [← h.length]; exact (List.getElem?_eq_some_iff.mp e).1
  obtain ⟨u, e1, e2⟩ := h.get (List.getElem?_eq_getElem hi)
  rw [e] at e1; cases e1
  exact ⟨_, List.getElem?_eq_getElem hi, e2⟩
theorem IsTs.append : ∀ {ts us : List Tr} {vs ws : List V}, IsTs K H ts vs → IsTs K H us ws → IsTs K H (ts ++ us) (vs ++ ws)
  | [], us, vs, ws, h, h' => by rw [isTs_nil.mp h]; exact h'
  | t :: ts, us, vs, ws, h, h' => by
    obtain ⟨v, r, rfl, h1, h2⟩ := isTs_cons.mp h
    exact isTs_cons.mpr ⟨v, r ++ ws, rfl, h1, IsTs.append h2 h'⟩
theorem IsTs.one {t : Tr} {v : V} (h : IsT K H t v) : IsTs K H [t] [v] := isTs_cons.mpr ⟨v, [], rfl, h, isTs_nil.mpr rfl⟩
theorem IsTs.cons {t : Tr} {v : V} {ts : List Tr} {vs : List V} (h : IsT K H t v) (h' : IsTs K H ts vs) : IsTs K H (t :: ts) (v :: vs) := isTs_cons.mpr ⟨v, vs, rfl, h, h'⟩
theorem IsTs.nil : IsTs K H [] [] := isTs_nil.mpr rfl
theorem IsTs.snoc {t : Tr} {v : V} {ts : List Tr} {vs : List V} (h : IsTs K H ts vs) (h' : IsT K H t v) : IsTs K H (ts ++ [t]) (vs ++ [v]) := h.append (.one h')
theorem IsTs.drop : ∀ {ts : List Tr} {vs : List V} (n : Nat), IsTs K H ts vs → IsTs K H (ts.drop n) (vs.drop n)
  | _, _, 0, h => h
  | [], vs, n + 1, h => by rw [isTs_nil.mp h]; simpa using IsTs.nil
  | t :: ts, vs, n + 1, h => by
    obtain ⟨v, r, rfl, _, h2⟩ := isTs_cons.mp h
    exact IsTs.drop n h2
theorem IsTs.take : ∀ {ts : List Tr} {vs : List V} (n : Nat), IsTs K H ts vs → IsTs K H (ts.take n) (vs.take n)
  | _, _, 0, _ => by simpa using IsTs.nil
  | [], vs, n + 1, h => by rw [isTs_nil.mp h]; simpa using IsTs.nil
  | t :: ts, vs, n + 1, h => by
    obtain ⟨v, r, rfl, h1, h2⟩ := isTs_cons.mp h
    exact isTs_cons.mpr ⟨v, r.take n, rfl, h1, IsTs.take n h2⟩
theorem IsT.str {s : Str} : IsT K H (.w s) (.str s) := isT_w.mpr rfl
theorem IsT.tup {ts : List Tr} {a : Addr} {vs : List V} (h : SqT K H a vs) (h' : IsTs K H ts vs) : IsT K H (.l ts) (.ref a) := isT_l.mpr ⟨a, vs, rfl, h, h'⟩
end
/-! ### what may change -/
/-- what stood stands, but at S -/
def Kp (S : Addr → Prop) (H H' : Hp) : Prop := ∀ a o, ¬ S a → H a = some o → H' a = some o
abbrev No : Addr → Prop := fun _ => False
section
variable {S S' : Addr → Prop} {H H' H1 H2 : Hp} {p a : Addr} {o : HO} {K : PySem.W.Frag}
theorem Kp.refl : Kp S H H := fun _ _ _ h => h
theorem Kp.trans (a : Kp S H H1) (b : Kp S H1 H2) : Kp S H H2 := fun x o n h => b x o n (a x o n h)
theorem Kp.same (h : Kp No H H') : Same H H' := fun a o e => h a o (fun z => z) e
theorem Kp.of (h : Same H H') : Kp S H H' := fun a o _ e => h a o e
theorem Kp.mono (h : Kp S H H') (m : ∀ a, S a → S' a) : Kp S' H H' := fun a o n e => h a o (fun z => n (m a z)) e
theorem Kp.new (k : Kp S H H') (h : H' p = none) : Kp S H (upd H' p o) := fun a u n e => by
  have e' := k a u n e
  rw [upd_ne (ne_of_none e' h)]; exact e'
/-- an object that was not there, or that may change -/
theorem Kp.put (k : Kp S H H') (h : S p ∨ H p = none) : Kp S H (upd H' p o) := fun a u n e => by
  have na : a ≠ p := by
    rintro rfl
    rcases h with h | h
    · exact n h
    · rw [e] at h; cases h
  rw [upd_ne na]; exact k a u n e
theorem Kp.fresh (k : Kp S H H') (n : ¬ S p) (h : H' p = none) : H p = none := by
  cases q : H p with
  | none => rfl
  | some u => rw [k p u n q] at h; cases h
theorem TK.new (h : H p = none) : TK K H (upd H p o) := fun a xs e => by
  rcases e with (e | ⟨ob, e⟩) | e
  · exact .inl (.inl (by rw [upd_ne (ne_of_none e h)]; exact e))
  · exact .inl (.inr ⟨ob, by rw [upd_ne (ne_of_none e h)]; exact e⟩)
  · exact .inr e
theorem Mut.notT {xs : List V} {ob : Obj} (m : Mut (H a)) : H a ≠ some (.tup xs) ∧ H a ≠ some (.frz ob (.tup xs)) := by
  constructor <;> (intro e; rw [e] at m; exact m)
theorem TK.put (m : Mut (H p)) : TK K H (upd H p o) := fun a xs e => by
  rcases e with (e | ⟨ob, e⟩) | e
  · exact .inl (.inl (by rw [upd_ne (by rintro rfl; rw [e] at m; exact m)]; exact e))
  · exact .inl (.inr ⟨ob, by rw [upd_ne (by rintro rfl; rw [e] at m; exact m)]; exact e⟩)
  · exact .inr e
theorem TK.kp (k : Kp S H H') (m : ∀ a, S a → Mut (H a)) : TK K H H' := fun a xs e => by
  rcases e with (e | ⟨ob, e⟩) | e
  · exact .inl (.inl (k a _ (fun z => by have q := m a z; rw [e] at q; exact q) e))
  · exact .inl (.inr ⟨ob, k a _ (fun z => by have q := m a z; rw [e] at q; exact q) e⟩)
  · exact .inr e
theorem TK.same (k : Same H H') : TK K H H' := TK.kp (S := No) (Kp.of k) fun _ z => z.elim
theorem same_new (h : H p = none) : Same H (upd H p o) := fun b u q => by rw [upd_ne (ne_of_none q h)]; exact q
theorem mut_lst {xs : List V} (e : H a = some (.lst xs)) : Mut (H a) := by rw [e]; trivial
end
theorem sz {n : Nat} (h : n ≤ 1000000) : n ≤ sizeLine := Nat.le_trans h (by decide)
theorem szl {n : Nat} (h : n ≤ 1000000) : n < sizeLine := Nat.lt_of_le_of_lt h (by decide)
/-! ### tuples of trees: made, joined, cut -/
section
variable {K : PySem.W.Frag} {H : Hp} {Q : VK}
theorem newT {ts : List Tr} {vs : List V} (h : IsTs K H ts vs) (q : ∀ (v : V) (H' : Hp), Same H H' → IsT K H' (.l ts) v → Q v H') : ∀ p, H p = none → Q (.ref p) (upd H p (.tup vs)) := fun p np =>
  q _ _ (same_new np) (IsT.tup (SqT.of upd_same) (h.tk (TK.new np)))
theorem catA {as bs : List Tr} {u v : V} (ha : IsT K H (.l as) u) (hb : IsT K H (.l bs) v) (hz : as.length + bs.length ≤ 1000000) (q : ∀ (v : V) (H' : Hp), Same H H' → IsT K H' (.l (as ++ bs)) v → Q v H') : rCatA K u v H Q := by
  obtain ⟨a, us, rfl, sa, ia⟩ := isT_l.mp ha
  obtain ⟨b, vs, rfl, sb, ib⟩ := isT_l.mp hb
  have la := ia.length
  have lb := ib.length
  refine ⟨a, b, us, vs, rfl, rfl, sa, sb, sz (by omega), fun e => ?_, fun _ e => ?_, fun _ _ => newT (ia.append ib) q⟩
  · subst e
    have : as = [] := List.eq_nil_of_length_eq_zero (by rw [← la]; rfl)
    subst this
    exact q _ _ (Same.refl H) hb
  · subst e
    have : bs = [] := List.eq_nil_of_length_eq_zero (by rw [← lb]; rfl)
    subst this
    exact q _ _ (Same.refl H) (by rw [List.append_nil]; exact ha)
def cutT (as : List Tr) (lo hi : Option Int) : List Tr := (as.drop (HT.sIx as.length 0 lo)).take (HT.sIx as.length as.length hi - HT.sIx as.length 0 lo)
theorem slA {as : List Tr} {u : V} {lo hi : Option Int} (ha : IsT K H (.l as) u) (q : ∀ (v : V) (H' : Hp), Same H H' → IsT K H' (.l (cutT as lo hi)) v → Q v H') : rSlA K u lo hi H Q := by
  obtain ⟨a, us, rfl, sa, ia⟩ := isT_l.mp ha
  have la := ia.length
  refine ⟨a, us, rfl, sa, fun e => ?_, fun _ => newT ?_ q⟩
  · rw [la] at e
    refine q _ _ (Same.refl H) ?_
    unfold cutT
    rw [e.1, e.2]
    simpa using ha
  · unfold cutT cutV
    rw [la]
    exact (ia.drop _).take _
theorem cutT_drop {as : List Tr} {n : Nat} (h : n ≤ as.length) : cutT as (some (n : Int)) none = as.drop n := by
  unfold cutT
  rw [HT.sIx_nat, HT.sIx_none, Nat.min_eq_left h, List.take_of_length_le (by rw [List.length_drop]; exact Nat.le_refl _)]
theorem cutT_take {as : List Tr} {n : Nat} (h : n ≤ as.length) : cutT as none (some (n : Int)) = as.take n := by
  unfold cutT
  rw [HT.sIx_nat, HT.sIx_none, Nat.min_eq_left h, Nat.sub_zero, List.drop_zero]
end
theorem atI_of {α : Type} {xs : List α} {i : Int} {v : α} (h0 : 0 ≤ i) (h : xs[i.toNat]? = some v) : atI xs i = some v := by
  have e : i = (i.toNat : Int) := by omega
  rw [e]
  exact atI_nat h
theorem atI_map {xs : List Int} {i : Int} (h0 : 0 ≤ i) (h : i.toNat < xs.length) : atI (xs.map V.int) i = some (.int xs[i.toNat]) :=
  atI_of h0 (by rw [List.getElem?_map, List.getElem?_eq_getElem h]; rfl)
theorem ixN_of {n : Nat} {i : Int} (h0 : 0 ≤ i) (h : i.toNat < n) : ixN n i = some i.toNat := by
  unfold ixN
  rw [if_pos h0, if_pos (by omega)]
theorem last_of (xs : List V) (v : V) : (xs ++ [v])[(xs ++ [v]).length - 1]? = some v := by simp
theorem paired_last {α β : Type} {F : α → β → Prop} : ∀ {as : List α} {bs : List β}, Paired F as bs → 0 < bs.length → ∃ as' a bs' b, as = as' ++ [a] ∧ bs = bs' ++ [b] ∧ Paired F as' bs' ∧ F a b
  | _, _, .nil, h => absurd h (Nat.lt_irrefl _)
  | _, _, .cons (a := a) (b := b) f .nil, _ => ⟨[], a, [], b, rfl, rfl, .nil, f⟩
  | _, _, .cons (a := a) (b := b) f (.cons g t), _ => by
    obtain ⟨as', x, bs', y, e1, e2, p, q⟩ := paired_last (.cons g t) (Nat.succ_pos _)
    exact ⟨a :: as', x, b :: bs', y, by rw [e1]; rfl, by rw [e2]; rfl, .cons f p, q⟩
theorem paired_snoc {α β : Type} {F : α → β → Prop} {as : List α} {bs : List β} {a : α} {b : β} (h : Paired F as bs) (f : F a b) : Paired F (as ++ [a]) (bs ++ [b]) := Paired.snoc h f
theorem paired_mono {α β : Type} {F G : α → β → Prop} (m : ∀ a b, F a b → G a b) : ∀ {as : List α} {bs : List β}, Paired F as bs → Paired G as bs
  | _, _, .nil => .nil
  | _, _, .cons f t => .cons (m _ _ f) (paired_mono m t)
theorem paired_app {α β : Type} {F : α → β → Prop} {as' : List α} {bs' : List β} : ∀ {as : List α} {bs : List β}, Paired F as bs → Paired F as' bs' → Paired F (as ++ as') (bs ++ bs')
  | _, _, .nil, h => h
  | _, _, .cons f t, h => .cons f (paired_app t h)
theorem paired_len {α β : Type} {F : α → β → Prop} {as : List α} {bs : List β} (h : Paired F as bs) : as.length = bs.length := Paired.length h
/-- isinstance(x, str | tuple) of trees -/
theorem kty {K : PySem.W.Frag} {a b : String} {r : Bool} (h : kitB a b = some r) : PySem.W.kitOne K (.type a) (.type b) = some r := kit_ty h
theorem k_ss : kitB "str" "str" = some true := by decide +kernel
theorem k_ts : kitB "tuple" "str" = some false := by decide +kernel
theorem k_st : kitB "str" "tuple" = some false := by decide +kernel
theorem k_tt : kitB "tuple" "tuple" = some true := by decide +kernel
theorem tyX_str {K : PySem.W.Frag} {H : Hp} {s : Str} : TyX K H (.str s) (.type "str") := .base (.str s)
theorem tyX_tup {K : PySem.W.Frag} {H : Hp} {a : Addr} {xs : List V} (h : SqT K H a xs) : TyX K H (.ref a) (.type "tuple") := by
  rcases h with (h | ⟨o, h⟩) | ⟨o, its, n, h, c, _⟩
  · exact .base (.tup h)
  · exact .fTuple h
  · exact .kTuple h c
/-- an if whose test's answer is told, the heap as it was -/
theorem if_b {c : TT} {t u : TS} {D : Ends} {σ : L2.St} {H : Hp} (b : Bool) (h : ∀ Qb : Bool → Hp → Prop, Qb b H → c σ H Qb) (q1 : b = true → t D σ H) (q2 : b = false → u D σ H) : tIfS c t u D σ H := by
  refine h _ ?_
  cases b with
  | true => exact q1 rfl
  | false => exact q2 rfl
theorem noSp {P : Program} {w : World} {K : PySem.W.Frag} {mg : Str → Option Value} {base : Heap} {f : Addr} {fd : FuncData} {ps : List Str} {sp : Sp} {k : Nat} {CX : CXT} (no : ∀ vs H Q E, ¬ sp vs H Q E) : FnOk P w K mg base CX k f fd ps sp :=
  ⟨fun vs H Q E h => absurd h (no vs H Q E), fun A outer s H args us vs Q E _ _ _ _ h => absurd h (no vs H Q E)⟩
theorem at4V {x y z u : V} {r : Int} (h0 : 0 ≤ r) (h1 : r < 4) : ∃ v, atI [x, y, z, u] r = some v ∧ (v = x ∨ v = y ∨ v = z ∨ v = u) := by
  have e : r = 0 ∨ r = 1 ∨ r = 2 ∨ r = 3 := by omega
  rcases e with rfl | rfl | rfl | rfl
  · exact ⟨x, rfl, .inl rfl⟩
  · exact ⟨y, rfl, .inr (.inl rfl)⟩
  · exact ⟨z, rfl, .inr (.inr (.inl rfl))⟩
  · exact ⟨u, rfl, .inr (.inr (.inr rfl))⟩
theorem bo_len : bootBuiltins "len" = some (.builtin "len") := PySem.boot_len
theorem bo_abs : bootBuiltins "abs" = some (.builtin "abs") := by decide +kernel
theorem bo_isinstance : bootBuiltins "isinstance" = some (.builtin "isinstance") := by decide +kernel
theorem bo_int : bootBuiltins "int" = some (.type "int") := by decide +kernel
theorem bo_str : bootBuiltins "str" = some (.type "str") := by decide +kernel
theorem bo_tuple : bootBuiltins "tuple" = some (.type "tuple") := by decide +kernel
theorem bo_list : bootBuiltins "list" = some (.type "list") := by decide +kernel
theorem bo_bool : bootBuiltins "bool" = some (.type "bool") := by decide +kernel
theorem bo_dict : bootBuiltins "dict" = some (.type "dict") := by decide +kernel
theorem bo_min : bootBuiltins "min" = some (.builtin "min") := by decide +kernel
theorem bo_max : bootBuiltins "max" = some (.builtin "max") := by decide +kernel
theorem bo_repr : bootBuiltins "repr" = some (.builtin "repr") := by decide +kernel
/-! ### the hand: a list of the draws (at d: ds) and a place -/
structure Hnd (H : Hp) (h d : Addr) (ds : List Int) : Prop where
  at_ : ∃ i : Int, H h = some (.lst [.ref d, .int i]) ∧ 0 ≤ i
  dr : H d = some (.lst (ds.map V.int))
  ne : d ≠ h
  nn : ∀ x ∈ ds, 0 ≤ x
abbrev At (h : Addr) : Addr → Prop := fun a => a = h
section
variable {S : Addr → Prop} {H H' H0 : Hp} {h d p : Addr} {ds : List Int} {o : HO} {K : PySem.W.Frag}
theorem Hnd.mut (x : Hnd H h d ds) : ∀ a, At h a → Mut (H a) := by
  rintro a rfl
  obtain ⟨i, e, _⟩ := x.at_
  rw [e]; trivial
theorem Hnd.tk (x : Hnd H h d ds) (k : Kp (At h) H H') : TK K H H' := TK.kp k x.mut
theorem Hnd.new (x : Hnd H h d ds) (n : H p = none) : Hnd (upd H p o) h d ds := by
  obtain ⟨⟨i, e, i0⟩, e2, ne, nn⟩ := x
  exact ⟨⟨i, by rw [upd_ne (ne_of_none e n)]; exact e, i0⟩, by rw [upd_ne (ne_of_none e2 n)]; exact e2, ne, nn⟩
theorem Hnd.same (x : Hnd H h d ds) (k : Same H H') : Hnd H' h d ds := by
  obtain ⟨⟨i, e, i0⟩, e2, ne, nn⟩ := x
  exact ⟨⟨i, k _ _ e, i0⟩, k _ _ e2, ne, nn⟩
theorem Hnd.neH (x : Hnd H h d ds) (n : H p = none) : p ≠ h := by
  obtain ⟨⟨i, e, _⟩, _⟩ := x
  rintro rfl
  rw [e] at n; cases n
theorem Hnd.neD (x : Hnd H h d ds) (n : H p = none) : p ≠ d := by
  obtain ⟨_, e, _, _⟩ := x
  rintro rfl
  rw [e] at n; cases n
/-- an object other than the hand's two is changed -/
theorem Hnd.put (x : Hnd H h d ds) (n1 : p ≠ h) (n2 : p ≠ d) : Hnd (upd H p o) h d ds := by
  obtain ⟨⟨i, e, i0⟩, e2, ne, nn⟩ := x
  exact ⟨⟨i, by rw [upd_ne n1.symm]; exact e, i0⟩, by rw [upd_ne n2.symm]; exact e2, ne, nn⟩
end
end OG

/-! ### == of trees -/
namespace OG
open PySem L2
mutual
def pd : Tr → PyData
  | .w s => .str s
  | .l ts => .tuple (pds ts)
def pds : List Tr → List PyData
  | [] => []
  | t :: ts => pd t :: pds ts
end
/-- the words' signs are signs -/
abbrev sw (s : Str) : Bool := PyData.strOk s
mutual
def Tr.sok : Tr → Bool
  | .w s => sw s
  | .l ts => Tr.soks ts
def Tr.soks : List Tr → Bool
  | [] => true
  | t :: ts => t.sok && Tr.soks ts
end
theorem Tr.soks_iff : ∀ {ts : List Tr}, Tr.soks ts = true ↔ ∀ t ∈ ts, t.sok = true
  | [] => by simp [Tr.soks]
  | t :: ts => by simp [Tr.soks, Tr.soks_iff (ts := ts)]
theorem Tr.sok_l {ts : List Tr} : (Tr.l ts).sok = true ↔ ∀ t ∈ ts, t.sok = true := by simp only [Tr.sok]; exact Tr.soks_iff
theorem sw_app {s t : Str} : sw (s ++ t) = (sw s && sw t) := by
  show (s.cps ++ t.cps).all _ = (s.cps.all _ && t.cps.all _)
  rw [Array.all_append]
mutual
theorem pd_lay : ∀ t : Tr, t.sok = true → (pd t).canLay0 = true
  | .w s, h => by simp only [Tr.sok] at h; simp only [pd, PyData.canLay0]; exact h
  | .l ts, h => by simp only [Tr.sok] at h; simp only [pd, PyData.canLay0]; exact pds_lay ts h
theorem pds_lay : ∀ ts : List Tr, Tr.soks ts = true → PyData.canLayAll0 (pds ts) = true
  | [], _ => by simp [pds, PyData.canLayAll0]
  | t :: ts, h => by
    simp only [Tr.soks, Bool.and_eq_true] at h
    simp only [pds, PyData.canLayAll0]; rw [pd_lay t h.1, pds_lay ts h.2]; rfl
end
mutual
theorem pd_depth : ∀ t : Tr, (pd t).depth = t.depth
  | .w s => by simp [pd, PyData.depth, Tr.depth]
  | .l ts => by simp only [pd, PyData.depth, Tr.depth]; rw [pds_depth ts]
theorem pds_depth : ∀ ts : List Tr, PyData.depthAll (pds ts) = Tr.depths ts
  | [] => by simp [pds, PyData.depthAll, Tr.depths]
  | t :: ts => by simp only [pds, PyData.depthAll, Tr.depths]; rw [pd_depth t, pds_depth ts]
end
mutual
theorem pd_eqv : ∀ a b : Tr, PyData.eqv (pd a) (pd b) = a.beq b
  | .w s, .w t => by
    simp only [pd, PyData.eqv, Tr.beq]
    rw [Bool.eq_iff_iff]; simp
  | .l xs, .l ys => by simp only [pd, PyData.eqv, Tr.beq]; exact pds_eqv xs ys
  | .w _, .l _ => by simp [pd, PyData.eqv, Tr.beq]
  | .l _, .w _ => by simp [pd, PyData.eqv, Tr.beq]
theorem pds_eqv : ∀ as bs : List Tr, PyData.eqvAll (pds as) (pds bs) = Tr.beqs as bs
  | [], [] => by simp [pds, PyData.eqvAll, Tr.beqs]
  | x :: xs, y :: ys => by simp only [pds, PyData.eqvAll, Tr.beqs]; rw [pd_eqv x y, pds_eqv xs ys]
  | [], _ :: _ => by simp [pds, PyData.eqvAll, Tr.beqs]
  | _ :: _, [] => by simp [pds, PyData.eqvAll, Tr.beqs]
end
theorem pd_dec (a b : Tr) : PyData.eqv (pd a) (pd b) = decide (a = b) := by
  rw [pd_eqv, Bool.eq_iff_iff, Tr.beq_iff]; simp
mutual
theorem IsT.dp {K : PySem.W.Frag} {H : Hp} : ∀ {t : Tr} {v : V}, IsT K H t v → Dp K H v (pd t)
  | .w s, v, h => by rw [isT_w.mp h]; exact Dp.str s
  | .l ts, v, h => by
    obtain ⟨a, vs, rfl, s, r⟩ := isT_l.mp h
    exact Dp.tup s (IsTs.dp r)
theorem IsTs.dp {K : PySem.W.Frag} {H : Hp} : ∀ {ts : List Tr} {vs : List V}, IsTs K H ts vs → DpAll K H vs (pds ts)
  | [], vs, h => by rw [isTs_nil.mp h]; exact DpAll.nil
  | t :: ts, vs, h => by
    obtain ⟨v, r, rfl, h1, h2⟩ := isTs_cons.mp h
    exact DpAll.cons (IsT.dp h1) (IsTs.dp h2)
end
theorem un2 {k : Nat} {A : Around} (r : Room k A) : A.units + 200 < cLine := by have := r.un; omega
def rEqT (K : PySem.W.Frag) : R2 := fun x y H Q => ∃ a b : Tr, IsT K H a x ∧ IsT K H b y ∧ a.sok = true ∧ b.sok = true ∧ min a.depth b.depth ≤ 200 ∧ Q (.bl (decide (a = b))) H
def rNeT (K : PySem.W.Frag) : R2 := fun x y H Q => ∃ a b : Tr, IsT K H a x ∧ IsT K H b y ∧ a.sok = true ∧ b.sok = true ∧ min a.depth b.depth ≤ 200 ∧ Q (.bl (!decide (a = b))) H
theorem op_eqT {X : Cx} (hu : X.A.units + 200 < cLine) : OpR X (compareOp .Eq) (rEqT X.K) := by
  intro pins s σ H x y v u Q I rx ry h
  obtain ⟨a, b, ha, hb, sa, sb, hd, q⟩ := h
  obtain ⟨as, r1⟩ := Dp.reads I _ x v ha.dp rx
  obtain ⟨bs, r2⟩ := Dp.reads I _ y u hb.dp ry
  refine SeqAt.compareEq_reads r1 r2 (pd_lay a sa) (pd_lay b sb) (by rw [pd_depth, pd_depth]; omega) ?_
  rw [pd_dec]; exact ⟨.bl _, H, I, rfl, q⟩
theorem op_neT {X : Cx} (hu : X.A.units + 200 < cLine) : OpR X (compareOp .NotEq) (rNeT X.K) := by
  intro pins s σ H x y v u Q I rx ry h
  obtain ⟨a, b, ha, hb, sa, sb, hd, q⟩ := h
  obtain ⟨as, r1⟩ := Dp.reads I _ x v ha.dp rx
  obtain ⟨bs, r2⟩ := Dp.reads I _ y u hb.dp ry
  refine SeqAt.compareNe_reads r1 r2 (pd_lay a sa) (pd_lay b sb) (by rw [pd_depth, pd_depth]; omega) ?_
  rw [pd_dec]; exact ⟨.bl _, H, I, rfl, q⟩
theorem slen (z : Str) : z.cps.toList.length = z.length := by
  show z.cps.toList.length = z.cps.size
  simp
end OG

/-! ### texts of trees: what is written, what is read -/
namespace OG
open PySem L2
def lowS : Str := "abcdefghijklmnopqrstuvwxyz"
def figS : Str := "0123456789"
def betS : Str := " \n"
def low (c : Nat) : Bool := decide (c ∈ lowS.cps.toList)
def alnum (c : Nat) : Bool := decide (c ∈ (lowS ++ figS).cps.toList)
def bet (c : Nat) : Bool := decide (c ∈ betS.cps.toList)
theorem low_alnum {c : Nat} (h : low c = true) : alnum c = true := by
  have e : (lowS ++ figS).cps.toList = lowS.cps.toList ++ figS.cps.toList := by
    show (lowS.cps ++ figS.cps).toList = _
    simp
  unfold alnum low at *
  rw [e]
  exact decide_eq_true (List.mem_append_left _ (of_decide_eq_true h))
theorem alnum_facts : ∀ c ∈ (lowS ++ figS).cps.toList, bet c = false ∧ c ≠ 40 ∧ c ≠ 41 := by decide +kernel
theorem alnum_bet {c : Nat} (h : alnum c = true) : bet c = false := (alnum_facts c (of_decide_eq_true h)).1
theorem alnum_40 {c : Nat} (h : alnum c = true) : c ≠ 40 := (alnum_facts c (of_decide_eq_true h)).2.1
theorem alnum_41 {c : Nat} (h : alnum c = true) : c ≠ 41 := (alnum_facts c (of_decide_eq_true h)).2.2
theorem bet_facts : ∀ c ∈ betS.cps.toList, alnum c = false := by decide +kernel
theorem bet_alnum {c : Nat} (h : bet c = true) : alnum c = false := bet_facts c (of_decide_eq_true h)
theorem bet_40 : bet 40 = false := by decide +kernel
theorem bet_41 : bet 41 = false := by decide +kernel
theorem alnum_p40 : alnum 40 = false := by decide +kernel
theorem alnum_p41 : alnum 41 = false := by decide +kernel
theorem low_p40 : low 40 = false := by decide +kernel
theorem low_p41 : low 41 = false := by decide +kernel
def skip (l : List Nat) : List Nat := l.dropWhile bet
def full : List (List Tr) → Bool
  | [_ :: _] => true
  | _ => false
/-- what read_value finds behind a place: N the text's length, st the open lists (the last one first), the rest of the text -/
def rd (N : Nat) : Nat → List (List Tr) → List Nat → Except Nat Tr
  | 0, _, _ => .error 0
  | _ + 1, st, [] => match st with
    | [t :: _] => .ok t
    | _ => .error N
  | n + 1, st, c :: r =>
    if full st = true then .error (N - (r.length + 1))
    else if c = 40 then rd N n ([] :: st) (skip r)
    else match st with
      | top :: nxt :: s =>
        if c = 41 then rd N n ((nxt ++ [.l top]) :: s) (skip r)
        else if low c = true then
          if ((c :: r).takeWhile alnum).length ≤ 12 then rd N n ((top ++ [.w ⟨((c :: r).takeWhile alnum).toArray⟩]) :: nxt :: s) (skip ((c :: r).dropWhile alnum))
          else .error (N - (r.length + 1) + 12)
        else .error (N - (r.length + 1))
      | [top] =>
        if low c = true then
          if ((c :: r).takeWhile alnum).length ≤ 12 then rd N n [top ++ [.w ⟨((c :: r).takeWhile alnum).toArray⟩]] (skip ((c :: r).dropWhile alnum))
          else .error (N - (r.length + 1) + 12)
        else .error (N - (r.length + 1))
      | [] => .error 0
def WOk (s : Str) : Prop := ∃ c r, s.cps.toList = c :: r ∧ low c = true ∧ (∀ x ∈ r, alnum x = true) ∧ r.length + 1 ≤ 12
mutual
def TOk : Tr → Prop
  | .w s => WOk s
  | .l ts => TOks ts
def TOks : List Tr → Prop
  | [] => True
  | t :: ts => TOk t ∧ TOks ts
end
theorem toks_of : ∀ {ts : List Tr}, (∀ t ∈ ts, TOk t) → TOks ts
  | [], _ => by simp [TOks]
  | t :: ts, h => by
    simp only [TOks]
    exact ⟨h t List.mem_cons_self, toks_of fun u hu => h u (List.mem_cons_of_mem _ hu)⟩
theorem toks_mem : ∀ {ts : List Tr}, TOks ts → ∀ t ∈ ts, TOk t
  | t :: ts, h, u, hu => by
    simp only [TOks] at h
    rcases List.mem_cons.mp hu with e | e
    · subst e; exact h.1
    · exact toks_mem h.2 u e
mutual
def toks : Tr → List (List Nat)
  | .w s => [s.cps.toList]
  | .l ts => [40] :: (toksL ts ++ [[41]])
def toksL : List Tr → List (List Nat)
  | [] => []
  | t :: ts => toks t ++ toksL ts
end
def WordTok (k : List Nat) : Prop := ∃ c r, k = c :: r ∧ low c = true ∧ (∀ x ∈ r, alnum x = true) ∧ r.length + 1 ≤ 12
def GoodTok (k : List Nat) : Prop := k = [40] ∨ k = [41] ∨ WordTok k
/-- a text without spaces ahead spells these pieces -/
def Spells : List (List Nat) → List Nat → Prop
  | [], l => l = []
  | k :: ks, l => ∃ g r, l = k ++ (g ++ r) ∧ (∀ c ∈ g, bet c = true) ∧ Spells ks r ∧ (WordTok k → ∀ c, (g ++ r).head? = some c → alnum c = false)
mutual
theorem good_toks : ∀ {t : Tr}, TOk t → ∀ k ∈ toks t, GoodTok k
  | .w s, h, k, hk => by
    simp only [toks, List.mem_singleton] at hk
    subst hk
    simp only [TOk] at h
    exact .inr (.inr h)
  | .l ts, h, k, hk => by
    simp only [toks, List.mem_cons, List.mem_append, List.not_mem_nil, or_false] at hk
    simp only [TOk] at h
    rcases hk with e | e | e
    · exact .inl e
    · exact good_toksL h k e
    · exact .inr (.inl e)
theorem good_toksL : ∀ {ts : List Tr}, TOks ts → ∀ k ∈ toksL ts, GoodTok k
  | [], _, k, hk => by simp [toksL] at hk
  | t :: ts, h, k, hk => by
    simp only [toksL, List.mem_append] at hk
    simp only [TOks] at h
    rcases hk with e | e
    · exact good_toks h.1 k e
    · exact good_toksL h.2 k e
end
theorem good_head {k : List Nat} (h : GoodTok k) : ∃ c r, k = c :: r ∧ bet c = false := by
  rcases h with rfl | rfl | ⟨c, r, rfl, h, _⟩
  · exact ⟨40, [], rfl, bet_40⟩
  · exact ⟨41, [], rfl, bet_41⟩
  · exact ⟨c, r, rfl, alnum_bet (low_alnum h)⟩
theorem skip_gap : ∀ {g l : List Nat}, (∀ c ∈ g, bet c = true) → skip (g ++ l) = skip l
  | [], _, _ => rfl
  | c :: g, l, h => by
    have h1 := h c List.mem_cons_self
    show (c :: (g ++ l)).dropWhile bet = _
    rw [List.dropWhile_cons, h1]
    exact skip_gap fun x hx => h x (List.mem_cons_of_mem _ hx)
theorem skip_no {c : Nat} {l : List Nat} (h : bet c = false) : skip (c :: l) = c :: l := by
  show (c :: l).dropWhile bet = _
  rw [List.dropWhile_cons, h]
  rfl
theorem spells_skip {ks : List (List Nat)} {l : List Nat} (h : Spells ks l) (g : ∀ k ∈ ks, GoodTok k) : skip l = l := by
  cases ks with
  | nil => have e : l = [] := h; subst e; rfl
  | cons k ks =>
    obtain ⟨gp, r, e, _⟩ := h
    obtain ⟨c, q, e2, hb⟩ := good_head (g k List.mem_cons_self)
    rw [e, e2]
    exact skip_no hb
theorem spells_gap {ks : List (List Nat)} {g r : List Nat} (hg : ∀ c ∈ g, bet c = true) (h : Spells ks r) (k : ∀ k ∈ ks, GoodTok k) : skip (g ++ r) = r := by
  rw [skip_gap hg, spells_skip h k]
theorem word_split {c : Nat} {r m : List Nat} (hl : low c = true) (hr : ∀ x ∈ r, alnum x = true) (hm : ∀ x, m.head? = some x → alnum x = false) :
    (c :: (r ++ m)).takeWhile alnum = c :: r ∧ (c :: (r ++ m)).dropWhile alnum = m := by
  have key : ∀ r : List Nat, (∀ x ∈ r, alnum x = true) → (r ++ m).takeWhile alnum = r ∧ (r ++ m).dropWhile alnum = m := by
    intro r
    induction r with
    | nil =>
      intro _
      cases m with
      | nil => exact ⟨rfl, rfl⟩
      | cons x m =>
        have hx := hm x rfl
        simp [List.takeWhile_cons, List.dropWhile_cons, hx]
    | cons y r ih =>
      intro h
      have hy := h y List.mem_cons_self
      obtain ⟨i1, i2⟩ := ih fun x hx => h x (List.mem_cons_of_mem _ hx)
      simp [List.takeWhile_cons, List.dropWhile_cons, hy, i1, i2]
  have hc := low_alnum hl
  obtain ⟨i1, i2⟩ := key r hr
  constructor
  · rw [List.takeWhile_cons, hc]; simp [i1]
  · rw [List.dropWhile_cons, hc]; simp [i2]
theorem full_no {top : List Tr} {st : List (List Tr)} (h : st ≠ [] ∨ top = []) : full (top :: st) = false := by
  rcases h with h | h
  · cases st with
    | nil => exact absurd rfl h
    | cons a s => cases top <;> rfl
  · subst h; cases st <;> rfl
mutual
theorem rd_t (N : Nat) : ∀ {t : Tr} {ks : List (List Nat)} {l : List Nat} {top : List Tr} {st : List (List Tr)} {n : Nat}, TOk t → (∀ k ∈ ks, GoodTok k) → Spells (toks t ++ ks) l → (st ≠ [] ∨ top = []) → l.length < n →
    ∃ l' n', Spells ks l' ∧ l'.length < n' ∧ rd N n (top :: st) l = rd N n' ((top ++ [t]) :: st) l'
  | .w s, ks, l, top, st, n, ok, gk, sp, hst, hn => by
    simp only [TOk] at ok
    obtain ⟨c, r, ec, hl, hr, h12⟩ := ok
    simp only [toks, List.cons_append, List.nil_append] at sp
    obtain ⟨g, m, el, hg, hs, hw⟩ := sp
    rw [ec] at el hw
    have hw' := hw ⟨c, r, rfl, hl, hr, h12⟩
    obtain ⟨w1, w2⟩ := word_split (m := g ++ m) hl hr hw'
    subst el
    cases n with
    | zero => exact absurd hn (Nat.not_lt_zero _)
    | succ n =>
      have es : (⟨(c :: r).toArray⟩ : Str) = s := by rw [← ec]
      have hc40 : c ≠ 40 := alnum_40 (low_alnum hl)
      have hc41 : c ≠ 41 := alnum_41 (low_alnum hl)
      refine ⟨m, n, hs, ?_, ?_⟩
      · simp only [List.length_append, List.length_cons] at hn; omega
      · show rd N (n + 1) (top :: st) (c :: (r ++ (g ++ m))) = _
        have h13 : (c :: r).length ≤ 12 := by simpa using h12
        cases st with
        | nil =>
          simp only [rd, full_no hst, Bool.false_eq_true, if_false, hc40, hl, if_true, w1, w2, h13, es, spells_gap hg hs gk]
        | cons nxt s' =>
          simp only [rd, full_no hst, Bool.false_eq_true, if_false, hc40, hc41, hl, if_true, w1, w2, h13, es, spells_gap hg hs gk]
  | .l ts, ks, l, top, st, n, ok, gk, sp, hst, hn => by
    simp only [TOk] at ok
    simp only [toks, List.cons_append, List.append_assoc] at sp
    obtain ⟨g, m, el, hg, hs, _⟩ := sp
    cases n with
    | zero => exact absurd hn (Nat.not_lt_zero _)
    | succ n =>
      have gk2 : ∀ k ∈ [[41]] ++ ks, GoodTok k := fun k hk => by
        rcases List.mem_append.mp hk with e | e
        · exact .inr (.inl (List.mem_singleton.mp e))
        · exact gk k e
      have gk1 : ∀ k ∈ toksL ts ++ ([[41]] ++ ks), GoodTok k := fun k hk => by
        rcases List.mem_append.mp hk with e | e
        · exact good_toksL ok k e
        · exact gk2 k e
      subst el
      have hn1 : m.length < n := by
        simp only [List.length_append, List.length_cons, List.length_nil] at hn; omega
      obtain ⟨l1, n1, s1, b1, e1⟩ := rd_ts N (top := []) (st := top :: st) ok gk2 hs (by simp) hn1
      simp only [List.cons_append, List.nil_append] at s1
      obtain ⟨g2, m2, el2, hg2, hs2, _⟩ := s1
      subst el2
      cases n1 with
      | zero => exact absurd b1 (Nat.not_lt_zero _)
      | succ n1 =>
        refine ⟨m2, n1, hs2, ?_, ?_⟩
        · simp only [List.length_append, List.length_cons, List.length_nil] at b1; omega
        · have step1 : rd N (n + 1) (top :: st) ([40] ++ (g ++ m)) = rd N n ([] :: top :: st) m := by
            show rd N (n + 1) (top :: st) (40 :: (g ++ m)) = _
            simp only [rd, full_no hst, Bool.false_eq_true, if_false, if_true, spells_gap hg hs gk1]
          have step2 : rd N (n1 + 1) (([] ++ ts) :: top :: st) ([41] ++ (g2 ++ m2)) = rd N n1 ((top ++ [.l ts]) :: st) m2 := by
            show rd N (n1 + 1) (ts :: top :: st) (41 :: (g2 ++ m2)) = _
            have f : full (ts :: top :: st) = false := by cases ts <;> rfl
            simp only [rd, f, Bool.false_eq_true, if_false, if_true, (by decide : ¬ (41 = 40)), spells_gap hg2 hs2 gk]
          rw [step1, e1, step2]
theorem rd_ts (N : Nat) : ∀ {ts : List Tr} {ks : List (List Nat)} {l : List Nat} {top : List Tr} {st : List (List Tr)} {n : Nat}, TOks ts → (∀ k ∈ ks, GoodTok k) → Spells (toksL ts ++ ks) l → st ≠ [] → l.length < n →
    ∃ l' n', Spells ks l' ∧ l'.length < n' ∧ rd N n (top :: st) l = rd N n' ((top ++ ts) :: st) l'
  | [], ks, l, top, st, n, _, gk, sp, hst, hn => by
    simp only [toksL, List.nil_append] at sp
    exact ⟨l, n, sp, hn, by rw [List.append_nil]⟩
  | t :: ts, ks, l, top, st, n, ok, gk, sp, hst, hn => by
    simp only [TOks] at ok
    simp only [toksL, List.append_assoc] at sp
    have gk1 : ∀ k ∈ toksL ts ++ ks, GoodTok k := fun k hk => by
      rcases List.mem_append.mp hk with e | e
      · exact good_toksL ok.2 k e
      · exact gk k e
    obtain ⟨l1, n1, s1, b1, e1⟩ := rd_t N (top := top) ok.1 gk1 sp (.inl hst) hn
    obtain ⟨l2, n2, s2, b2, e2⟩ := rd_ts N (top := top ++ [t]) ok.2 gk s1 hst b1
    refine ⟨l2, n2, s2, b2, ?_⟩
    rw [e1, e2, List.append_assoc]
    rfl
end
/-- a text with spaces ahead -/
def SpellsG (ks : List (List Nat)) (l : List Nat) : Prop := ∃ g r, l = g ++ r ∧ (∀ c ∈ g, bet c = true) ∧ Spells ks r
theorem read_ok {t : Tr} {l : List Nat} {N : Nat} (ok : TOk t) (h : SpellsG (toks t) l) : rd N (l.length + 1) [[]] (skip l) = .ok t := by
  obtain ⟨g, r, rfl, hg, hs⟩ := h
  rw [spells_gap hg hs (good_toks ok)]
  have hs' : Spells (toks t ++ []) r := by rw [List.append_nil]; exact hs
  obtain ⟨l', n', s', b', e⟩ := rd_t N (top := []) (st := []) (n := (g ++ r).length + 1) ok (fun k hk => absurd hk List.not_mem_nil) hs' (.inr rfl) (by simp only [List.length_append]; omega)
  have el : l' = [] := s'
  subst el
  rw [e]
  cases n' with
  | zero => exact absurd b' (Nat.not_lt_zero _)
  | succ n => rfl
/-! ### what is written -/
mutual
def wr : Tr → List Nat
  | .w s => s.cps.toList
  | .l ts => 40 :: (wrs ts ++ [41])
/-- the texts with one space between -/
def wrs : List Tr → List Nat
  | [] => []
  | [t] => wr t
  | t :: u :: ts => wr t ++ 32 :: wrs (u :: ts)
end
theorem bet32 : bet 32 = true := by decide +kernel
mutual
theorem spells_wr : ∀ {t : Tr} {ks : List (List Nat)} {m : List Nat}, TOk t → (∃ g r, m = g ++ r ∧ (∀ c ∈ g, bet c = true) ∧ Spells ks r) → (∀ c, m.head? = some c → alnum c = false) → Spells (toks t ++ ks) (wr t ++ m)
  | .w s, ks, m, ok, ⟨g, r, e, hg, hs⟩, hm => by
    subst e
    simp only [toks, wr, List.cons_append, List.nil_append]
    exact ⟨g, r, rfl, hg, hs, fun _ => hm⟩
  | .l ts, ks, m, ok, ⟨g, r, e, hg, hs⟩, hm => by
    subst e
    simp only [TOk] at ok
    simp only [toks, wr, List.cons_append, List.append_assoc, List.nil_append]
    refine ⟨[], wrs ts ++ 41 :: (g ++ r), rfl, fun _ h => (nomatch h), ?_, fun ⟨c, _, h, hl, _⟩ => by injection h with h _; subst h; rw [low_p40] at hl; cases hl⟩
    have h41 : Spells ([41] :: ks) (41 :: (g ++ r)) := ⟨g, r, rfl, hg, hs, fun ⟨c, _, h, hl, _⟩ => absurd hl (by rw [← (List.cons.inj h).1, low_p41]; decide)⟩
    exact spells_wrs (m := 41 :: (g ++ r)) ok ⟨[], _, rfl, fun _ h => (nomatch h), h41⟩ (fun c hc => by
      have e : 41 = c := by simpa using hc
      rw [← e]; exact alnum_p41) fun _ => ⟨_, rfl, h41⟩
theorem spells_wrs : ∀ {ts : List Tr} {ks : List (List Nat)} {m : List Nat}, TOks ts → (∃ g r, m = g ++ r ∧ (∀ c ∈ g, bet c = true) ∧ Spells ks r) → (∀ c, m.head? = some c → alnum c = false) → 
    (ts = [] → ∃ r, m = r ∧ Spells ks r) → Spells (toksL ts ++ ks) (wrs ts ++ m)
  | [], ks, m, ok, h, hm, hn => by
    obtain ⟨r, e, hs⟩ := hn rfl
    subst e
    simpa [toksL, wrs] using hs
  | [t], ks, m, ok, h, hm, _ => by
    simp only [TOks] at ok
    simp only [toksL, wrs, List.append_nil]
    exact spells_wr ok.1 h hm
  | t :: u :: ts, ks, m, ok, h, hm, _ => by
    rw [TOks] at ok
    have e : wrs (t :: u :: ts) ++ m = wr t ++ (32 :: (wrs (u :: ts) ++ m)) := by simp [wrs]
    have e2 : toksL (t :: u :: ts) ++ ks = toks t ++ (toksL (u :: ts) ++ ks) := by simp [toksL]
    rw [e, e2]
    refine spells_wr ok.1 ⟨[32], wrs (u :: ts) ++ m, rfl, fun c hc => by rw [List.mem_singleton.mp hc]; exact bet32, spells_wrs ok.2 h hm fun z => by cases z⟩ fun c hc => ?_
    have e : 32 = c := by simpa using hc
    rw [← e]; exact bet_alnum bet32
end
theorem read_wr {t : Tr} (ok : TOk t) : SpellsG (toks t) (wr t) := by
  refine ⟨[], wr t, rfl, fun _ h => (nomatch h), ?_⟩
  have h := spells_wr (t := t) (ks := []) (m := []) ok ⟨[], [], rfl, fun _ h => (nomatch h), rfl⟩ fun c hc => by simp at hc
  simpa using h
/-! ### how write_value goes along -/
abbrev Wt := Sum Str Tr
def wtx : Wt → List Nat
  | .inl s => s.cps.toList
  | .inr t => wr t
def wtw : Wt → Nat
  | .inl _ => 1
  | .inr t => 3 * t.size - 1
def wtws (ws : List Wt) : Nat := (ws.map wtw).sum
theorem wtws_append (a b : List Wt) : wtws (a ++ b) = wtws a + wtws b := by simp [wtws]
theorem wtws_length : ∀ ws : List Wt, ws.length ≤ wtws ws
  | [] => Nat.zero_le _
  | w :: ws => by
    have h := wtws_length ws
    have h1 : 1 ≤ wtw w := by
      cases w with
      | inl s => exact Nat.le_refl _
      | inr t => have := Tr.size_pos t; show 1 ≤ 3 * t.size - 1; omega
    show ws.length + 1 ≤ wtw w + wtws ws
    omega
/-- what is laid for the items from a place on -/
def pfx (b : Bool) : List Tr → List Wt
  | [] => []
  | t :: r => pfx true r ++ ([.inr t] ++ if b then [.inl " "] else [])
theorem pfx_w : ∀ (b : Bool) (ts : List Tr), wtws (pfx b ts) ≤ 3 * Tr.sizes ts
  | _, [] => Nat.zero_le _
  | b, t :: r => by
    have h := pfx_w true r
    have := Tr.size_pos t
    have e : wtws (([.inr t] : List Wt) ++ if b then [.inl " "] else []) ≤ 3 * t.size := by
      cases b <;> simp [wtws, wtw] <;> omega
    show wtws (pfx true r ++ _) ≤ 3 * (t.size + Tr.sizes r)
    rw [wtws_append]; omega
abbrev spS : Str := " "
abbrev opS : Str := "("
abbrev clS : Str := ")"
theorem slens : ∀ l : List Str, (l.map (·.length)).sum = (l.flatMap (fun s => s.cps.toList)).length
  | [] => rfl
  | x :: r => by
    have h : x.cps.toList.length = x.length := by
      show x.cps.toList.length = x.cps.size
      simp
    simp only [List.map_cons, List.sum_cons, List.flatMap_cons, List.length_append, h, slens r]
theorem sizes_drop : ∀ (ts : List Tr) (n : Nat), Tr.sizes (ts.drop n) ≤ Tr.sizes ts
  | ts, 0 => Nat.le_refl _
  | [], n + 1 => by simp
  | t :: r, n + 1 => by
    have := sizes_drop r n
    show Tr.sizes (r.drop n) ≤ t.size + Tr.sizes r
    omega
theorem sp_cps : (" " : Str).cps.toList = [32] := by decide +kernel
theorem op_cps : ("(" : Str).cps.toList = [40] := by decide +kernel
theorem cl_cps : (")" : Str).cps.toList = [41] := by decide +kernel
theorem pfx_tx : ∀ (b : Bool) (ts : List Tr), (pfx b ts).reverse.flatMap wtx = (if b = true ∧ ts ≠ [] then [32] else []) ++ wrs ts
  | b, [] => by simp [pfx, wrs]
  | b, [t] => by
    cases b
    · simp [pfx, wrs, wtx]
    · simp [pfx, wrs, wtx, sp_cps]
  | b, t :: u :: r => by
    have h := pfx_tx true (u :: r)
    have h' : (pfx true (u :: r)).reverse.flatMap wtx = 32 :: wrs (u :: r) := by simpa using h
    have e : pfx b (t :: u :: r) = pfx true (u :: r) ++ ([.inr t] ++ if b then [.inl " "] else []) := rfl
    rw [e, List.reverse_append, List.flatMap_append, h', wrs]
    cases b
    · simp [wtx]
    · simp [wtx, sp_cps]
theorem drop_pfx {ts : List Tr} {i : Nat} {t : Tr} (h : ts[i]? = some t) (b : Bool) : pfx b (ts.drop i) = pfx true (ts.drop (i + 1)) ++ ([.inr t] ++ if b then [.inl " "] else []) := by
  have hi : i < ts.length := (List.getElem?_eq_some_iff.mp h).1
  have e : ts[i] = t := (List.getElem?_eq_some_iff.mp h).2
  rw [List.drop_eq_getElem_cons hi, e]
  rfl
theorem join_cps (l : List Str) : (Txt.join "" l).cps.toList = l.flatMap (fun s => s.cps.toList) := by
  have e := PyProof.Rows.join_plain_closes ("" : Str) l
  rw [eq_of_beq e]
  induction l with
  | nil => rfl
  | cons x r ih =>
    cases r with
    | nil => simp [Str.join]
    | cons y r =>
      have e2 : Str.join ("" : Str) (x :: y :: r) = x ++ ("" : Str) ++ Str.join "" (y :: r) := rfl
      have e3 := ih (PyProof.Rows.join_plain_closes ("" : Str) (y :: r))
      rw [e2]
      show ((x.cps ++ (Str.ofString "").cps) ++ (Str.join "" (y :: r)).cps).toList = _
      rw [Array.toList_append, e3, Array.toList_append]
      have e0 : (Str.ofString "").cps.toList = [] := by decide +kernel
      rw [e0]
      simp
theorem rd_full {N n c : Nat} {st : List (List Tr)} {r : List Nat} (h : full st = true) : rd N (n + 1) st (c :: r) = .error (N - (r.length + 1)) := by
  simp only [rd, h, if_true]
theorem rd_40 {N n : Nat} {st : List (List Tr)} {r : List Nat} (h : full st = false) : rd N (n + 1) st (40 :: r) = rd N n ([] :: st) (skip r) := by
  simp only [rd, h, Bool.false_eq_true, if_false, if_true]
theorem rd_41 {N n : Nat} {top nxt : List Tr} {s : List (List Tr)} {r : List Nat} (h : full (top :: nxt :: s) = false) : rd N (n + 1) (top :: nxt :: s) (41 :: r) = rd N n ((nxt ++ [.l top]) :: s) (skip r) := by
  simp only [rd, h, Bool.false_eq_true, if_false, if_true, (by decide : ¬ (41 = 40))]
theorem rd_word {N n c : Nat} {top : List Tr} {s : List (List Tr)} {r : List Nat} (h : full (top :: s) = false) (h40 : c ≠ 40) (h41 : c ≠ 41 ∨ s = []) : rd N (n + 1) (top :: s) (c :: r) =
    if low c = true then
      if ((c :: r).takeWhile alnum).length ≤ 12 then rd N n ((top ++ [.w ⟨((c :: r).takeWhile alnum).toArray⟩]) :: s) (skip ((c :: r).dropWhile alnum))
      else .error (N - (r.length + 1) + 12)
    else .error (N - (r.length + 1)) := by
  cases s with
  | nil => simp only [rd, h, Bool.false_eq_true, if_false, h40]
  | cons nxt s =>
    have h41' : c ≠ 41 := h41.elim id fun z => by cases z
    simp only [rd, h, Bool.false_eq_true, if_false, h40, h41']
/-! ### places in a text -/
theorem one_eq {c k : Nat} {s : Str} (h : s.cps.toList = [k]) : decide (V.str ⟨#[c]⟩ = V.str s) = decide (c = k) := by
  have e : (V.str ⟨#[c]⟩ = V.str s) ↔ c = k := by
    constructor
    · intro q
      have q2 : (⟨#[c]⟩ : Str) = s := by injection q
      have q3 : ([c] : List Nat) = s.cps.toList := by rw [← q2]
      rw [h] at q3
      exact (List.cons.inj q3).1
    · intro q
      subst q
      have : s = ⟨#[c]⟩ := by
        cases s with
        | mk a =>
          have h' : a.toList = [c] := h
          have : a = #[c] := by rw [← Array.toArray_toList (xs := a), h']
          rw [this]
      rw [this]
  exact decide_eq_decide.mpr e
theorem drop_tw (p : Nat → Bool) : ∀ l : List Nat, l.dropWhile p = l.drop (l.takeWhile p).length
  | [] => rfl
  | c :: l => by
    rw [List.dropWhile_cons, List.takeWhile_cons]
    cases h : p c with
    | true => simpa using drop_tw p l
    | false => rfl
theorem take_tw (p : Nat → Bool) : ∀ l : List Nat, l.takeWhile p = l.take (l.takeWhile p).length
  | [] => rfl
  | c :: l => by
    rw [List.takeWhile_cons]
    cases h : p c with
    | true => simpa using take_tw p l
    | false => rfl
theorem tw_le (p : Nat → Bool) : ∀ l : List Nat, (l.takeWhile p).length ≤ l.length
  | [] => Nat.le_refl _
  | c :: l => by
    have := tw_le p l
    rw [List.takeWhile_cons]
    cases h : p c with
    | true => simp; omega
    | false => simp
theorem skip_le (l : List Nat) : (skip l).length ≤ l.length := by
  unfold skip; rw [drop_tw, List.length_drop]; omega
theorem cut_cps {z : Str} {a b : Nat} (h1 : a ≤ b) (h2 : b ≤ z.length) : (cutS z (some (a : Int)) (some (b : Int))).cps.toList = (z.cps.toList.drop a).take (b - a) := by
  unfold cutS
  rw [HT.sIx_nat, HT.sIx_nat, Nat.min_eq_left (Nat.le_trans h1 h2), Nat.min_eq_left h2]
theorem str_ext {s t : Str} (h : s.cps.toList = t.cps.toList) : s = t := by
  cases s with
  | mk a => cases t with
    | mk b =>
      have : a = b := Array.toList_inj.mp h
      rw [this]
end OG

/-! ### list(zip(a, b)) of two tuples -/
namespace ZL
open PySem PySem.Calls PySem.Spec PyProof.Rows L2
theorem noLen : typeLookup (.type "zip") "__len__" = pure none := by rw [typeLookup_type, builtinLookup_eq_fast]; kernel_rfl
theorem noHint : typeLookup (.type "zip") "__length_hint__" = pure none := by rw [typeLookup_type, builtinLookup_eq_fast]; kernel_rfl
section
variable {prog : Program} {w : World} {A : Around} {E : Value → Shared → Prop} {s : Shared} {z TI TO T p q a b : Addr} {fl : Bool} {oT : Obj} {m n : Nat} {us vs : Array Value} {u v : Value}
/-- one turn more, while the last pair is still out -/
theorem heldItem {Q : Value → Shared → Prop} (D : ZipApart z TI TO p q a b) (hz : IsZipHeld s.heap z TI TO T fl) (hT : s.heap.get? T = some oT) (hI : IsPair s.heap TI (.ref p) (.ref q))
    (hp : s.heap.IsTupleIter p a m) (hq : s.heap.IsTupleIter q b n) (ha : s.heap.IsTuple a us) (hb : s.heap.IsTuple b vs) (hu : us[m]? = some u) (hv : vs[n]? = some v)
    (hQ : ∀ g, IsZipHeld g z TI TO T true → g.IsTupleIter p a (m + 1) → g.IsTupleIter q b (n + 1) → IsPair g s.heap.objs.size u v →
      (∀ c o, c ≠ z → c ≠ p → c ≠ q → s.heap.get? c = some o → g.get? c = some o) → Q (.ref s.heap.objs.size) { s with heap := g }) :
    wpAny (model prog w) A (Builtin.«zip.__next__» ⟨[.ref z], []⟩) (fun fin t => ∃ x, fin = .done (.ret x) ∧ Q x t) E s := by
  show wpAny _ _ (field (.ref z) 2 >>= _) _ _ _; refine wpAny_bind (wpAny_field hz rfl (x := .bool false) rfl ?_)
  show wpAny _ _ (field (.ref z) 3 >>= _) _ _ _; refine wpAny_bind (wpAny_field hz rfl (x := .ref TI) rfl ?_)
  refine wpAny_bind (wpAny_seqItems hI rfl ?_)
  show wpAny _ _ (Builtin.SmallTypes.ownedTupleIsFree (.ref z) >>= _) _ _ _; refine wpAny_bind (wpAny_tupleHeld_zip hz hT fun g1 z1 b1 => ?_)
  simp only [Bool.false_eq_true, if_false]
  refine wpAny_bind ?_
  rw [← Array.forIn_toList]; simp only [List.forIn_cons, List.forIn_nil]
  refine wpAny_bind (wpAny_bind (wpAny_holding ?_))
  show wpAny _ _ (Builtin.SmallTypes.nextOf (.ref p) >>= _) _ _ _
  refine wpAny_bind (RZ.nextOf_tuple_item (s := { s with heap := g1 }) (hp.extBut b1.extBut D.i1z) (ha.extBut b1.extBut D.l1z) hu fun g2 p2 b2 => wpAny_pure ?_)
  refine wpAny_pure (wpAny_bind (wpAny_bind (wpAny_holding ?_)))
  show wpAny _ _ (Builtin.SmallTypes.nextOf (.ref q) >>= _) _ _ _
  refine wpAny_bind (RZ.nextOf_tuple_item (s := { s with heap := g2 }) ((hq.extBut b1.extBut D.i2z).extBut b2.extBut D.i12.symm) ((hb.extBut b1.extBut D.l2z).extBut b2.extBut D.l2i1) hv fun g3 q3 b3 => wpAny_pure ?_)
  refine wpAny_pure (wpAny_pure ?_)
  show wpAny _ _ (newTuple [u, v] >>= _) _ _ _
  refine wpAny_bind (wpAny_newTuple ?_)
  have e3 : g3.objs.size = s.heap.objs.size := by rw [b3.1, b2.1, b1.1]
  have z3 : IsZipHeld g3 z TI TO T true := b3.extBut _ _ D.i2z.symm (b2.extBut _ _ D.i1z.symm z1)
  have k3 : ∀ c o, c ≠ z → c ≠ p → c ≠ q → s.heap.get? c = some o → g3.get? c = some o := fun c o x1 x2 x3 e => b3.extBut _ _ x3 (b2.extBut _ _ x2 (b1.extBut _ _ x1 e))
  have p3 : g3.IsTupleIter p a (m + 1) := p2.extBut b3.extBut D.i12
  refine wpAny_pure ⟨_, rfl, ?_⟩
  show Q (.ref g3.objs.size) _
  have pr : IsPair (g3.push { cls := .type "tuple", data := .seq #[u, v] }) g3.objs.size u v := Heap.get?_push_size _ rfl
  rw [e3] at pr ⊢
  exact hQ _ (Heap.get?_push_of_some _ z3) (p3.at fun o e => Heap.get?_push_of_some _ e) (q3.at fun o e => Heap.get?_push_of_some _ e) pr fun c o x1 x2 x3 e => Heap.get?_push_of_some _ (k3 c o x1 x2 x3 e)
/-- its end, while the last pair is still out -/
theorem heldEnd {Q : Fin → Shared → Prop} (hh : A.handled = none) (D : ZipApart z TI TO p q a b) (hz : IsZipHeld s.heap z TI TO T fl) (hT : s.heap.get? T = some oT) (hI : IsPair s.heap TI (.ref p) (.ref q))
    (hp : s.heap.IsTupleIter p a m) (hq : s.heap.IsTupleIter q b n) (ha : s.heap.IsTuple a us) (hb : s.heap.IsTuple b vs) (he : us[m]? = none ∨ vs[n]? = none)
    (hE : ∀ g x, (∀ c o, c ≠ z → c ≠ p → c ≠ q → s.heap.get? c = some o → g.get? c = some o) → (∃ o, g.get? x = some o ∧ o.cls = .type "StopIteration") → E (.ref x) { s with heap := g }) :
    wpAny (model prog w) A (Builtin.«zip.__next__» ⟨[.ref z], []⟩) Q E s := by
  show wpAny _ _ (field (.ref z) 2 >>= _) _ _ _; refine wpAny_bind (wpAny_field hz rfl (x := .bool false) rfl ?_)
  show wpAny _ _ (field (.ref z) 3 >>= _) _ _ _; refine wpAny_bind (wpAny_field hz rfl (x := .ref TI) rfl ?_)
  refine wpAny_bind (wpAny_seqItems hI rfl ?_)
  show wpAny _ _ (Builtin.SmallTypes.ownedTupleIsFree (.ref z) >>= _) _ _ _; refine wpAny_bind (wpAny_tupleHeld_zip hz hT fun g1 z1 b1 => ?_)
  simp only [Bool.false_eq_true, if_false]
  refine wpAny_bind ?_
  rw [← Array.forIn_toList]; simp only [List.forIn_cons, List.forIn_nil]
  refine wpAny_bind (wpAny_bind (wpAny_holding ?_))
  show wpAny _ _ (Builtin.SmallTypes.nextOf (.ref p) >>= _) _ _ _
  cases hu : us[m]? with
  | none =>
    refine wpAny_bind (RZ.nextOf_tuple_end (s := { s with heap := g1 }) hh (hp.extBut b1.extBut D.i1z) (ha.extBut b1.extBut D.l1z) hu fun g2 x b2 hx => ?_)
    exact hE g2 x (fun c o x1 x2 _ e => b2 _ _ x2 (b1.extBut _ _ x1 e)) hx
  | some u =>
    have hv : vs[n]? = none := he.resolve_left fun h => by rw [hu] at h; cases h
    refine wpAny_bind (RZ.nextOf_tuple_item (s := { s with heap := g1 }) (hp.extBut b1.extBut D.i1z) (ha.extBut b1.extBut D.l1z) hu fun g2 p2 b2 => wpAny_pure ?_)
    refine wpAny_pure (wpAny_bind (wpAny_bind (wpAny_holding ?_)))
    show wpAny _ _ (Builtin.SmallTypes.nextOf (.ref q) >>= _) _ _ _
    refine wpAny_bind (RZ.nextOf_tuple_end (s := { s with heap := g2 }) hh ((hq.extBut b1.extBut D.i2z).extBut b2.extBut D.i12.symm) ((hb.extBut b1.extBut D.l2z).extBut b2.extBut D.l2i1) hv fun g3 x b3 hx => ?_)
    exact hE g3 x (fun c o x1 x2 x3 e => b3 _ _ x3 (b2.extBut _ _ x2 (b1.extBut _ _ x1 e))) hx
/-- the zip's state: S is the list that is filled -/
def ZS (h : Heap) (S z TI TO p q a b : Addr) (us vs : Array Value) (i : Nat) : Prop := IsPair h TI (.ref p) (.ref q) ∧ h.IsTupleIter p a i ∧ h.IsTupleIter q b i ∧ h.IsTuple a us ∧ h.IsTuple b vs ∧
  ((IsZip h z TI TO .none ∧ ∃ x y, IsPair h TO x y) ∨ ∃ (T : Addr) (fl : Bool) (oT : Obj), IsZipHeld h z TI TO T fl ∧ h.get? T = some oT ∧ T ≠ z ∧ T ≠ p ∧ T ≠ q ∧ T ≠ S)
theorem ZS.keep {h h' : Heap} {S : Addr} {i : Nat} (st : ZS h S z TI TO p q a b us vs i) (ne : TI ≠ S ∧ p ≠ S ∧ q ≠ S ∧ a ≠ S ∧ b ≠ S ∧ z ≠ S ∧ TO ≠ S) (k : ∀ c o, c ≠ S → h.get? c = some o → h'.get? c = some o) : ZS h' S z TI TO p q a b us vs i := by
  obtain ⟨h1, h2, h3, h4, h5, h6⟩ := st
  obtain ⟨n1, n2, n3, n4, n5, n6, n7⟩ := ne
  refine ⟨k _ _ n1 h1, h2.at fun o e => k _ o n2 e, h3.at fun o e => k _ o n3 e, h4.at fun o e => k _ o n4 e, h5.at fun o e => k _ o n5 e, ?_⟩
  rcases h6 with ⟨hz, x, y, ht⟩ | ⟨T, fl, oT, hz, hT, r1, r2, r3, r4⟩
  · exact .inl ⟨k _ _ n6 hz, x, y, k _ _ n7 ht⟩
  · exact .inr ⟨T, fl, oT, k _ _ n6 hz, k _ _ r4 hT, r1, r2, r3, r4⟩
theorem next {S : Addr} {i : Nat} {Q : Option Value → Shared → Prop} (D : ZipApart z TI TO p q a b) (st : ZS s.heap S z TI TO p q a b us vs i) (hS : S < s.heap.objs.size) (hu : us[i]? = some u) (hv : vs[i]? = some v)
    (hQ : ∀ g, ZS g S z TI TO p q a b us vs (i + 1) → IsPair g s.heap.objs.size u v → (∀ c o, c ≠ z → c ≠ TO → c ≠ p → c ≠ q → s.heap.get? c = some o → g.get? c = some o) → Q (some (.ref s.heap.objs.size)) { s with heap := g }) :
    wpAny (model prog w) A (pyNext (.ref z)) Q E s := by
  obtain ⟨h1, h2, h3, h4, h5, h6⟩ := st
  have lt : ∀ {c o}, s.heap.get? c = some o → s.heap.objs.size ≠ c := fun e => Nat.ne_of_gt (Heap.lt_size e)
  have np : s.heap.objs.size ≠ p := let ⟨_, e, _⟩ := h2; lt e
  have nq : s.heap.objs.size ≠ q := let ⟨_, e, _⟩ := h3; lt e
  rcases h6 with ⟨hz, x, y, ht⟩ | ⟨T, fl, oT, hz, hT, r1, r2, r3, r4⟩
  · refine RZ.pyNext_zipT_item D hz h1 ht h2 h3 h4 h5 hu hv fun g c1 c2 c3 c4 c5 c6 hk => ?_
    exact hQ g ⟨hk _ _ D.TIz D.TITO D.TIi1 D.TIi2 h1, c3, c4, h4.at fun o e => hk _ o D.l1z D.l1TO D.l1i1 D.l1i2 e, h5.at fun o e => hk _ o D.l2z D.l2TO D.l2i1 D.l2i2 e,
      .inr ⟨_, false, _, c1, c5, lt hz, np, nq, Nat.ne_of_gt hS⟩⟩ c5 hk
  · have ty : s.TypeIs (.ref z) "zip" := ⟨_, hz, rfl⟩
    unfold pyNext
    refine wpAny_bind (wpAny_attempt (wpAny_callSpecial?_slot (name := Str.ofString "__next__") ty F.slot_zip_next (wpAny_call_entry F.slot_zip_next ty F.entry_zip_next ?_ (F.args_zip_next_1 _))))
    refine heldItem D hz hT h1 h2 h3 h4 h5 hu hv fun g c1 c3 c4 c5 hk => wpAny_pure ?_
    exact hQ g ⟨hk _ _ D.TIz D.TIi1 D.TIi2 h1, c3, c4, h4.at fun o e => hk _ o D.l1z D.l1i1 D.l1i2 e, h5.at fun o e => hk _ o D.l2z D.l2i1 D.l2i2 e,
      .inr ⟨T, true, oT, c1, hk _ _ r1 r2 r3 hT, r1, r2, r3, r4⟩⟩ c5 fun c o x1 _ x3 x4 e => hk c o x1 x3 x4 e
theorem stop {S : Addr} {i : Nat} {Q : Option Value → Shared → Prop} (hh : A.handled = none) (D : ZipApart z TI TO p q a b) (st : ZS s.heap S z TI TO p q a b us vs i) (he : us[i]? = none ∨ vs[i]? = none)
    (hQ : ∀ g, (∀ c o, c ≠ z → c ≠ TO → c ≠ p → c ≠ q → s.heap.get? c = some o → g.get? c = some o) → Q none { s with heap := g }) : wpAny (model prog w) A (pyNext (.ref z)) Q E s := by
  obtain ⟨h1, h2, h3, h4, h5, h6⟩ := st
  rcases h6 with ⟨hz, x, y, ht⟩ | ⟨T, fl, oT, hz, hT, r1, r2, r3, r4⟩
  · exact RZ.pyNext_zipT_end hh D hz h1 ht h2 h3 h4 h5 he hQ
  · have ty : s.TypeIs (.ref z) "zip" := ⟨_, hz, rfl⟩
    unfold pyNext
    refine wpAny_bind (wpAny_attempt (wpAny_callSpecial?_slot (name := Str.ofString "__next__") ty F.slot_zip_next (wpAny_call_entry F.slot_zip_next ty F.entry_zip_next (heldEnd hh D hz hT h1 h2 h3 h4 h5 he fun g x hk hx => ?_) (F.args_zip_next_1 _))))
    obtain ⟨o, ho, hc⟩ := hx
    refine wpAny_bind (wpAny_isInstance (T := "StopIteration") (b := true) ⟨o, ho, hc⟩ isSubtype_stop (wpAny_pure (hQ _ fun c o x1 _ x3 x4 e => hk c o x1 x3 x4 e)))
/-- the pairs that were made -/
structure Prs (us vs : Array Value) (lo : Addr) (h : Heap) (as : List Addr) : Prop where
  rise : as.Pairwise (· < ·)
  above : ∀ c ∈ as, lo < c
  at_ : ∀ (j : Nat) (c : Addr), as[j]? = some c → ∃ u v, us[j]? = some u ∧ vs[j]? = some v ∧ IsPair h c u v
end
section
variable {prog : Program} {w : World} {A : Around} {s : Shared} {R : Result → Shared → Prop} {z TI TO p q a b S : Addr} {us vs : Array Value}
theorem loop (hh : A.handled = none) (D : ZipApart z TI TO p q a b) (ne : TI ≠ S ∧ p ≠ S ∧ q ≠ S ∧ a ≠ S ∧ b ≠ S ∧ z ≠ S ∧ TO ≠ S) (lo : z < S ∧ TO < S ∧ p < S ∧ q < S) (n : Nat) (hn : n = min us.size vs.size) (hz : n ≤ sizeLine) (res : Value) {g : Heap}
    (hR : ∀ h tk acc c as, (∀ x o, x ≠ S → x ≠ z → x ≠ TO → x ≠ p → x ≠ q → g.get? x = some o → h.get? x = some o) → h.get? S = some { cls := .type "list", dict := none, data := .seq acc c, slots := #[] } → as.length = n → Prs us vs S h as →
      acc.toList = as.map Value.ref → R (.ok (.ret res)) { s with heap := h, toks := tk }) :
    ∀ (k i : Nat) (h : Heap) (tk c : Nat) (acc : Array Value) (as : List Addr), n - i = k → i ≤ n → ZS h S z TI TO p q a b us vs i → (∀ x o, x ≠ S → x ≠ z → x ≠ TO → x ≠ p → x ≠ q → g.get? x = some o → h.get? x = some o) →
      h.get? S = some { cls := .type "list", dict := none, data := .seq acc c, slots := #[] } → acc.toList = as.map Value.ref → as.length = i → Prs us vs S h as →
      codeAny (model prog w) A (.builtin "list.extend.loop" ⟨[.ref S, .ref z, res], []⟩) R { s with heap := h, toks := tk } := by
  intro k
  induction k with
  | zero =>
    intro i h tk c acc as hk hi st kp hS hacc hal G
    have e : i = n := by omega
    refine codeAny_builtin PySem.F.entry_extend_loop ?_
    rw [Around.under_plainId PySem.F.plain_extend_loop _]
    show wpAny _ A.in1 (pyNext (.ref z) >>= _) _ _ _
    have he : us[i]? = none ∨ vs[i]? = none := by
      rcases Nat.le_total us.size vs.size with x | x
      · exact .inl (Array.getElem?_eq_none (by omega))
      · exact .inr (Array.getElem?_eq_none (by omega))
    refine wpAny_bind (stop (s := { s with heap := h, toks := tk }) (A := A.in1) hh D st he fun h' hk' => ?_)
    refine wpAny_pure (hR h' tk acc c as (fun x o x1 x2 x3 x4 x5 e => hk' x o x2 x3 x4 x5 (kp x o x1 x2 x3 x4 x5 e)) (hk' S _ (Nat.ne_of_gt lo.1) (Nat.ne_of_gt lo.2.1) (Nat.ne_of_gt lo.2.2.1) (Nat.ne_of_gt lo.2.2.2) hS) (by omega) ⟨G.rise, G.above, fun j x hj => ?_⟩ hacc)
    obtain ⟨u, v, e1, e2, e3⟩ := G.at_ j x hj
    have hx := G.above x (List.mem_of_getElem? hj)
    exact ⟨u, v, e1, e2, hk' x _ (Nat.ne_of_gt (Nat.lt_trans lo.1 hx)) (Nat.ne_of_gt (Nat.lt_trans lo.2.1 hx)) (Nat.ne_of_gt (Nat.lt_trans lo.2.2.1 hx)) (Nat.ne_of_gt (Nat.lt_trans lo.2.2.2 hx)) e3⟩
  | succ k ih =>
    intro i h tk c acc as hk hi st kp hS hacc hal G
    have hu : i < us.size := by omega
    have hv : i < vs.size := by omega
    have sz : acc.size = i := by rw [← Array.length_toList, hacc, List.length_map, hal]
    have Sl : S < h.objs.size := Heap.lt_size hS
    refine codeAny_builtin PySem.F.entry_extend_loop ?_
    rw [Around.under_plainId PySem.F.plain_extend_loop _]
    show wpAny _ A.in1 (pyNext (.ref z) >>= _) _ _ _
    refine wpAny_bind (next (s := { s with heap := h, toks := tk }) D st Sl (Array.getElem?_eq_getElem hu) (Array.getElem?_eq_getElem hv) fun h' st' pr hk' => ?_)
    dsimp only at pr hk' ⊢
    have hS' := hk' S _ (Nat.ne_of_gt lo.1) (Nat.ne_of_gt lo.2.1) (Nat.ne_of_gt lo.2.2.1) (Nat.ne_of_gt lo.2.2.2) hS
    have up : ∀ x o, x ≠ S → h'.get? x = some o → (h'.update S (Obj.mapSeq (·.push (Value.ref h.objs.size)))).get? x = some o := fun x o hx e => (Heap.get?_update_other _ _ (Ne.symm hx)).trans e
    have old : ∀ x ∈ as, x < h.objs.size := fun x hx => by
      obtain ⟨j, hj⟩ := List.mem_iff_getElem?.mp hx
      obtain ⟨_, _, _, _, e⟩ := G.at_ j x hj
      exact Heap.lt_size e
    show wpAny _ A.in1 (updateSeq S (·.push (Value.ref h.objs.size)) >>= _) _ _ _
    refine wpAny_bind (wpAny_updateSeq hS' rfl (wpAny_pure ⟨plainId_quiet PySem.F.plain_extend_loop _, ih (i + 1) _ tk _ (acc.push (Value.ref h.objs.size)) (as ++ [h.objs.size]) (by omega) (by omega) (st'.keep ne up)
      (fun x o x1 x2 x3 x4 x5 e => up x o x1 (hk' x o x2 x3 x4 x5 (kp x o x1 x2 x3 x4 x5 e))) (Heap.get?_update_self _ hS' rfl) (by rw [Array.toList_push, hacc, List.map_append]; rfl) (by rw [List.length_append, hal]; rfl) ⟨?_, ?_, ?_⟩⟩) (by rw [sz]; omega) (by show (acc.push (Value.ref h.objs.size)).size ≤ sizeLine + 1; rw [Array.size_push, sz]; omega))
    · refine List.pairwise_append.mpr ⟨G.rise, List.pairwise_singleton _ _, fun x hx y hy => ?_⟩
      rw [List.mem_singleton.mp hy]; exact old x hx
    · intro x hx
      rcases List.mem_append.mp hx with hx | hx
      · exact G.above x hx
      · rw [List.mem_singleton.mp hx]; exact Sl
    · intro j x hj
      rcases Nat.lt_trichotomy j as.length with h1 | h1 | h1
      · rw [List.getElem?_append_left h1] at hj
        obtain ⟨u, v, e1, e2, e3⟩ := G.at_ j x hj
        have hx := G.above x (List.mem_of_getElem? hj)
        exact ⟨u, v, e1, e2, up x _ (Nat.ne_of_gt hx) (hk' x _ (Nat.ne_of_gt (Nat.lt_trans lo.1 hx)) (Nat.ne_of_gt (Nat.lt_trans lo.2.1 hx)) (Nat.ne_of_gt (Nat.lt_trans lo.2.2.1 hx)) (Nat.ne_of_gt (Nat.lt_trans lo.2.2.2 hx)) e3)⟩
      · have ex : h.objs.size = x := by rw [h1] at hj; simpa using hj
        rw [← ex, h1, hal]
        exact ⟨_, _, Array.getElem?_eq_getElem hu, Array.getElem?_eq_getElem hv, up _ _ (Nat.ne_of_gt Sl) pr⟩
      · rw [List.getElem?_eq_none (by rw [List.length_append, List.length_singleton]; omega)] at hj; cases hj
end
section
variable {prog : Program} {w : World} {A : Around} {E : Value → Shared → Prop} {s : Shared} {z TI TO p q a b : Addr} {us vs : Array Value}
/-- list(z), z a zip of two tuples that was just made -/
theorem call_list {Q : Value → Shared → Prop} (hh : A.handled = none) (D : ZipApart z TI TO p q a b) (hz : IsZip s.heap z TI TO .none) (hI : IsPair s.heap TI (.ref p) (.ref q)) (hO : IsPair s.heap TO .none .none)
    (hp : s.heap.IsTupleIter p a 0) (hq : s.heap.IsTupleIter q b 0) (ha : s.heap.IsTuple a us) (hb : s.heap.IsTuple b vs) (hn : min us.size vs.size ≤ sizeLine)
    (hQ : ∀ h tk acc c as, (∀ x o, x ≠ z → x ≠ TO → x ≠ p → x ≠ q → s.heap.get? x = some o → h.get? x = some o) → h.get? s.heap.objs.size = some { cls := .type "list", dict := none, data := .seq acc c, slots := #[] } → as.length = min us.size vs.size →
      Prs us vs s.heap.objs.size h as → acc.toList = as.map Value.ref → Q (.ref s.heap.objs.size) { s with heap := h, toks := tk }) :
    wpAny (model prog w) A (call (.type "list") [.ref z]) Q E s := by
  have lt : ∀ {c o}, s.heap.get? c = some o → c ≠ s.heap.objs.size := fun e => Nat.ne_of_lt (Heap.lt_size e)
  have lz := lt hz
  have l1 := lt hI
  have l2 := lt hO
  have lp : p < s.heap.objs.size := let ⟨_, e, _⟩ := hp; Heap.lt_size e
  have lq : q < s.heap.objs.size := let ⟨_, e, _⟩ := hq; Heap.lt_size e
  have la : a ≠ s.heap.objs.size := let ⟨_, e, _⟩ := ha; lt e
  have lb : b ≠ s.heap.objs.size := let ⟨_, e, _⟩ := hb; lt e
  refine callType_codes (Q₁ := fun obj t => obj = .ref s.heap.objs.size ∧ t = { s with heap := s.heap.push { cls := .type "list", data := .seq #[] } }) PySem.F.called_list (PySem.F.typeCall_list_1 _) PySem.F.entry_list_init (code_list_new _ ⟨rfl, rfl⟩) fun obj t ht => ?_
  obtain ⟨rfl, rfl⟩ := ht
  have hS : (s.heap.push { cls := .type "list", data := .seq #[] }).get? s.heap.objs.size = some { cls := .type "list", data := .seq #[] } := Heap.get?_push_size _ rfl
  refine ⟨⟨_, hS, rfl⟩, PySem.F.args_list_init_2 _ _, ?_⟩
  show wpAny _ A.in1.in1 (Builtin.List.listItems (.ref s.heap.objs.size) >>= fun old => Builtin.List.listUpdate (.ref s.heap.objs.size) (fun _ => #[]) >>= fun _ => letGo old.toList.reverse >>= fun _ => Builtin.List.listExtendWith (.ref s.heap.objs.size) (.ref z) .none) _ _ _
  refine wpAny_bind ?_
  unfold Builtin.List.listItems
  refine wpAny_bind (wpAny_seqItems hS rfl (wpAny_pure ?_))
  show wpAny _ A.in1.in1 (updateSeq s.heap.objs.size (fun _ => #[]) >>= fun _ => letGo (#[] : Array Value).toList.reverse >>= fun _ => Builtin.List.listExtendWith (.ref s.heap.objs.size) (.ref z) .none) _ _ _
  refine wpAny_bind (wpAny_updateSeq hS rfl ?_)
  have hS2 := Heap.get?_update_self (Obj.mapSeq (fun _ => (#[] : Array Value))) hS rfl
  have k2 : ∀ x o, s.heap.get? x = some o → ((s.heap.push { cls := .type "list", data := .seq #[] }).update s.heap.objs.size (Obj.mapSeq (fun _ => (#[] : Array Value)))).get? x = some o := fun x o e => (Heap.get?_update_other _ _ (lt e).symm).trans (Heap.get?_push_of_some _ e)
  refine wpAny_bind (wpAny_letGo ?_)
  have ty : (({ s with heap := (s.heap.push { cls := .type "list", data := .seq #[] }).update s.heap.objs.size (Obj.mapSeq (fun _ => (#[] : Array Value))) } : Shared)).TypeIs (.ref z) "zip" := ⟨_, k2 _ _ hz, rfl⟩
  unfold Builtin.List.listExtendWith
  refine wpAny_bind (wpAny_typeOf ty ?_)
  have b1 : Builtin.List.listSameRef (.ref s.heap.objs.size) (.ref z) = false := by simp [Builtin.List.listSameRef, lz.symm]
  have b2 : (Value.type "zip" == Value.type "list") = false := by decide
  have b3 : (Value.type "zip" == Value.type "tuple") = false := by decide
  simp only [b1, b2, b3, Bool.or_false, Bool.false_eq_true, if_false]
  refine wpAny_bind (wpAny_pyIter_zip (s := { s with heap := _ }) (k2 _ _ hz) ?_)
  refine wpAny_bind (wpAny_holding ?_)
  unfold Builtin.List.listLengthHint
  refine wpAny_bind (wpAny_specialOf ty noLen ?_)
  show wpAny _ A.in1.in1 (specialOf (Value.ref z) (Str.ofString "__length_hint__") >>= _) _ _ _
  refine wpAny_bind (wpAny_specialOf ty noHint (wpAny_pure ?_))
  have fin : ∀ (h : Heap) (c : Nat), (∀ x o, s.heap.get? x = some o → h.get? x = some o) → h.get? s.heap.objs.size = some { cls := .type "list", dict := none, data := .seq #[] c, slots := #[] } → codeAny (model prog w) A.in1 (.builtin "list.extend.loop" ⟨[.ref s.heap.objs.size, .ref z, .none], []⟩) (wants (fun r s₂ => r = .none ∧ Q (.ref s.heap.objs.size) s₂) E) { s with heap := h } := fun h c k hc => by
    refine loop (s := s) (A := A.in1) hh D ⟨l1, Nat.ne_of_lt lp, Nat.ne_of_lt lq, la, lb, lz, l2⟩ ⟨Heap.lt_size hz, Heap.lt_size hO, lp, lq⟩ (min us.size vs.size) rfl hn .none (g := s.heap)
      (fun h' tk acc c as kp e1 e2 G e3 => ⟨rfl, hQ h' tk acc c as (fun x o x1 x2 x3 x4 e => kp x o (lt e) x1 x2 x3 x4 e) e1 e2 G e3⟩) (min us.size vs.size) 0 h s.toks c #[] [] (Nat.sub_zero _) (Nat.zero_le _)
      ⟨k _ _ hI, hp.at fun o e => k _ o e, hq.at fun o e => k _ o e, ha.at fun o e => k _ o e, hb.at fun o e => k _ o e, .inl ⟨k _ _ hz, _, _, k _ _ hO⟩⟩ (fun x o _ _ _ _ _ e => k x o e) hc rfl rfl ⟨List.Pairwise.nil, (fun _ x => nomatch x), (fun j x e => by simp at e)⟩
  first
    | (refine wpAny_pure ⟨plainId_quiet PySem.F.plain_extend_loop _, fin _ _ k2 hS2⟩)
    | (refine wpAny_bind (wpAny_rule ?_)
       refine wpAny_bind ?_
       show wpAny _ A.in1.in1 (updateSeq s.heap.objs.size (·.push .none) >>= fun _ => updateSeq s.heap.objs.size (·.pop)) _ _ _
       refine wpAny_bind (wpAny_updateSeq hS2 rfl ?_)
       have hS3 := Heap.get?_update_self (Obj.mapSeq (·.push Value.none)) hS2 rfl
       refine wpAny_updateSeq (hz := by seq_fits) hS3 rfl ?_
       have hS4 := Heap.get?_update_self (Obj.mapSeq (·.pop)) hS3 rfl
       refine wpAny_pure ⟨plainId_quiet PySem.F.plain_extend_loop _, fin _ _ (fun x o e => (Heap.get?_update_other _ _ (lt e).symm).trans ((Heap.get?_update_other _ _ (lt e).symm).trans (k2 x o e))) hS4⟩)
end
/-- pairs tracked at their addresses -/
def putP : Hp → List Addr → List (V × V) → Hp
  | H, x :: as, e :: es => putP (upd H x (.tup [e.1, e.2])) as es
  | H, _, _ => H
theorem putP_off {x : Addr} : ∀ (as : List Addr) (es : List (V × V)) (H : Hp), x ∉ as → putP H as es x = H x
  | [], _, _, _ => rfl
  | _ :: _, [], _, _ => rfl
  | a :: as, e :: es, H, h => by
    show putP (upd H a (.tup [e.1, e.2])) as es x = H x
    rw [putP_off as es _ fun z => h (List.mem_cons_of_mem _ z), upd_ne fun z => h (by rw [z]; simp)]
theorem putP_at : ∀ (as : List Addr) (es : List (V × V)) (H : Hp), as.length = es.length → as.Nodup → Paired (fun (t : Addr) (e : V × V) => putP H as es t = some (.tup [e.1, e.2])) as es
  | [], [], _, _, _ => .nil
  | [], _ :: _, _, h, _ => by cases h
  | _ :: _, [], _, h, _ => by cases h
  | a :: as, e :: es, H, h, hn => by
    have hn' := List.nodup_cons.mp hn
    refine .cons ?_ (putP_at as es (upd H a (.tup [e.1, e.2])) (Nat.succ.inj h) hn'.2)
    show putP (upd H a (.tup [e.1, e.2])) as es a = some (.tup [e.1, e.2])
    rw [putP_off as es _ hn'.1, upd_same]
def rZipL (K : PySem.W.Frag) : List V → Hp → VK → Prop := fun xs H Q => ∃ (a b : Addr) (us vs : List V), xs = [.ref a, .ref b] ∧ SqT K H a us ∧ SqT K H b vs ∧
  ∀ (H' : Hp) (p : Addr) (ts : List Addr), Same H H' → H p = none → (∀ t ∈ ts, H t = none) → p ∉ ts → H' p = some (.lst (ts.map V.ref)) → Paired (fun (t : Addr) (e : V × V) => H' t = some (.tup [e.1, e.2])) ts (us.zip vs) → Q (.ref p) H'
def tListZip (K : PySem.W.Frag) (ta : TA) : TE := fun σ H Q => ta σ H fun xs H1 => rZipL K xs H1 Q
section
variable {X : Cx} {e e2 : Expr} {ta : TA} {p p2 cpos pos : Pos}
theorem laid {pins : List (Addr × Obj)} {σ : L2.St} {H : Hp} {s : Shared} {h' : Heap} {tk c : Nat} {us vs : List V} {us' vs' : List Value} {acc : Array Value} {as : List Addr} (I : Inv X pins σ H s) (hu : Vals us us') (hv : Vals vs vs') (hz : us.length ≤ sizeLine)
    (hk : ∀ b o, s.heap.get? b = some o → h'.get? b = some o) {S : Addr} (hSl : s.heap.objs.size ≤ S) (hS : h'.get? S = some { cls := .type "list", dict := none, data := .seq acc c, slots := #[] }) (hl : as.length = min us.length vs.length) (G : Prs us'.toArray vs'.toArray S h' as) (hacc : acc.toList = as.map Value.ref) :
    ∃ H' : Hp, Same H H' ∧ H S = none ∧ (∀ t ∈ as, H t = none) ∧ S ∉ as ∧ H' S = some (.lst (as.map V.ref)) ∧ Paired (fun (t : Addr) (e : V × V) => H' t = some (.tup [e.1, e.2])) as (us.zip vs) ∧ Inv X pins σ H' { s with heap := h', toks := tk } := by
  have lk : as.length = (us.zip vs).length := by rw [List.length_zip]; exact hl
  have nS : S ∉ as := fun z => Nat.lt_irrefl _ (G.above _ z)
  have nd : as.Nodup := List.Pairwise.imp (fun {a b} (h : a < b) => Nat.ne_of_lt h) G.rise
  have new : ∀ t ∈ as, H t = none := fun t ht => I.hok.fresh (Nat.le_of_lt (Nat.lt_of_le_of_lt hSl (G.above t ht)))
  have newS : H S = none := I.hok.fresh hSl
  have pAt := putP_at as (us.zip vs) (upd H S (.lst (as.map V.ref))) lk nd
  have off : ∀ b, b ∉ as → b ≠ S → putP (upd H S (.lst (as.map V.ref))) as (us.zip vs) b = H b := fun b h1 h2 => by rw [putP_off as _ _ h1, upd_ne h2]
  have low : ∀ b o, s.heap.get? b = some o → b ∉ as ∧ b ≠ S := fun b o e => ⟨fun z => absurd (Heap.lt_size e) (Nat.not_lt.mpr (Nat.le_trans hSl (Nat.le_of_lt (G.above b z)))), fun z => absurd (Heap.lt_size e) (Nat.not_lt.mpr (z ▸ hSl))⟩
  have kp : Same H (putP (upd H S (.lst (as.map V.ref))) as (us.zip vs)) := fun b u e => by
    rw [off b (fun z => by rw [new b z] at e; cases e) (fun z => by rw [z, newS] at e; cases e)]; exact e
  have eS : putP (upd H S (.lst (as.map V.ref))) as (us.zip vs) S = some (.lst (as.map V.ref)) := by rw [putP_off as _ _ nS, upd_same]
  refine ⟨_, kp, newS, new, nS, eS, pAt, ?_⟩
  refine I.call' (ch := []) rfl ⟨fun b o q _ _ _ => hk b o q, fun b o q _ _ _ => ⟨o.slots, hk b o q⟩, fun b o q n _ => ?_, fun b o q _ => ⟨o, hk b o q⟩, fun b xs q => kp b _ q, fun b o u q => kp b _ q, fun b ps q => ⟨#[], by rw [kp b _ q]; simp⟩⟩ (fun b u q => ?_) I.bare fun b z => by simp at z
  · obtain ⟨z1, z2⟩ := low b o q
    rw [off b z1 z2]; exact n
  · by_cases hb : b ∈ as
    · obtain ⟨j, pk, e1, e2, e3⟩ := LiI.paired_ix pAt hb
      rw [e3] at q; cases q
      obtain ⟨u, v, f1, f2, f3⟩ := G.at_ j b e1
      obtain ⟨k1, k2⟩ := List.getElem?_zip_eq_some.mp e2
      obtain ⟨u2, g1, g2⟩ := hu.get k1
      obtain ⟨v2, g3, g4⟩ := hv.get k2
      have eu : u2 = u := Option.some.inj (g1.symm.trans (by simpa using f1))
      have ev : v2 = v := Option.some.inj (g3.symm.trans (by simpa using f2))
      subst eu ev
      exact ⟨by show 2 ≤ sizeLine; decide, [u2, v2], .cons g2 (.cons g4 .nil), ⟨_, f3, rfl, _, rfl⟩⟩
    · by_cases hb2 : b = S
      · rw [hb2] at q ⊢
        rw [eS] at q; cases q
        refine ⟨by rw [List.length_map]; omega, acc.toList, c, by rw [hacc]; exact LiI.vals_refs as, ?_⟩
        rw [Array.toArray_toList]; exact hS
      · rw [off b hb hb2] at q
        exact (I.hok b u q).stay (fun d v _ y => hk d v y) (fun d y => kp d _ y) fun d xs y => kp d _ y
/-- list(zip(e, e2)) -/
theorem pe_listZip (hc : X.calm = true) (ha : PA X [e, e2] ta) (hg : Gl X "list") (hm : X.mg "list" = none) (hv : bootBuiltins "list" = some (.type "list")) (hgz : Gl X "zip") (hmz : X.mg "zip" = none)
    (hsz : starEach [e, e2] X.env = (false, eval e X.env) :: starEach [e2] X.env := by rfl) (hpl : (backTo cpos (starEach [e2] X.env)).any (·.1) = false := by rfl)
    (hs : starEach [.Call (.Name "zip" p2) [e, e2] [] cpos] X.env = (false, eval (.Call (.Name "zip" p2) [e, e2] [] cpos) X.env) :: starEach [] X.env := by rfl) :
    PE X (.Call (.Name "list" p) [.Call (.Name "zip" p2) [e, e2] [] cpos] [] pos) (tListZip X.K ta) := by
  refine ⟨fun pins s σ H Q I h => ?_⟩
  refine wpAny_Call_Name_kw (ld_blt I hg hm hv ?_)
  refine PyProof.Rows.callWith_type1 ?_ hs rfl
  rw [hs]
  show wpAny _ _ (spliced ((false, eval (.Call (.Name "zip" p2) [e, e2] [] cpos) X.env) :: backTo pos (starEach [] X.env))) _ _ s
  refine Calls.spliced_cons ?_
  refine Call_ (ld_blt I hgz hmz PyProof.Rows.boot_zip (PyProof.Rows.callWith_type1 (thn (ha.run cpos pins s σ H _ I h) fun ws s1 ⟨xs, H1, I1, r1, q1⟩ => ?_) hsz hpl))
  obtain ⟨a, b, us, vs, rfl, qa, qb, q⟩ := q1
  cases r1 with
  | cons r rr =>
    cases rr with
    | cons r' rr =>
      cases rr; cases r; cases r'
      obtain ⟨us', ru, pa, la⟩ := I1.tuple qa
      obtain ⟨vs', rv, pb, lb⟩ := I1.tuple qb
      obtain ⟨oa, ea, _⟩ := id pa
      obtain ⟨ob, eb, _⟩ := id pb
      have lu := ru.length
      have lv := rv.length
      refine RZ.call_zipT (show s1.heap.IsTuple a us'.toArray from pa) (show s1.heap.IsTuple b vs'.toArray from pb) fun h' c1 c2 c3 c4 c5 csz ck => ?_
      refine Calls.spliced_nil ?_
      have I2 : Inv X pins σ H1 { s1 with heap := h' } := I1.kept (t' := s1.toks) ck
      refine call_list (s := { s1 with heap := h' }) (I1.ok.hd hc) (PySem.W.ktu_apart s1.heap.objs.size a b (Heap.lt_size ea) (Heap.lt_size eb)) c1 c2 c3 c4 c5 (us := us'.toArray) (vs := vs'.toArray) (Heap.IsTuple.at (h := s1.heap) pa fun o z => ck _ o z) (Heap.IsTuple.at (h := s1.heap) pb fun o z => ck _ o z) (by simp only [List.size_toArray]; omega) fun h2 tk acc c as k2 eS el G eacc => ?_
      have kk : ∀ x o, s1.heap.get? x = some o → h2.get? x = some o := fun x o z => by
        have l : ∀ n : Nat, x ≠ s1.heap.objs.size + n := fun n => Nat.ne_of_lt (Nat.lt_of_lt_of_le (Heap.lt_size z) (Nat.le_add_right _ _))
        exact k2 x o (l 4) (l 3) (l 0) (l 1) (ck x o z)
      obtain ⟨H', k1, k3, k4, k5, k6, k7, J⟩ := laid (tk := tk) I1 ru rv la kk (S := h'.objs.size) (by omega) eS (by rw [el]; simp only [List.size_toArray]; omega) G eacc
      exact ⟨.ref _, H', J, rfl, q H' _ as k1 k3 k4 k5 k6 k7⟩
end
end ZL

namespace K3
open PySem L2 OG
def topS (i : Nat) : Stmt := PySem.Challenge.pw_ownglass_k03_same_values.main.body.getD i (.Pass ⟨0, 0, 0, 0⟩)
abbrev s_same_values : Stmt := topS 1
theorem sc_same_values : FnScope ["first", "second", "waiting", "one", "two"] ["first", "second"] (defScope s_same_values) := ⟨rfl, rfl, rfl, by decide +kernel, rfl, by decide +kernel, by decide +kernel⟩
abbrev s_law_draws : Stmt := topS 3
theorem sc_law_draws : FnScope ["_law_script", "_law_many", "_law_rests", "_law_draws_here", "_law_k", "_law_cell", "_law_mixed", "_law_at"] ["_law_script", "_law_many"] (defScope s_law_draws) := ⟨rfl, rfl, rfl, by decide +kernel, rfl, by decide +kernel, by decide +kernel⟩
abbrev s_law_take : Stmt := topS 4
theorem sc_law_take : FnScope ["_law_hand", "_law_many", "_law_at", "_law_draws_here"] ["_law_hand", "_law_many"] (defScope s_law_take) := ⟨rfl, rfl, rfl, by decide +kernel, rfl, by decide +kernel, by decide +kernel⟩
abbrev s_law_word : Stmt := topS 5
theorem sc_law_word : FnScope ["_law_hand", "_law_letters", "_law_size", "_law_word_here", "_law_k"] ["_law_hand"] (defScope s_law_word) := ⟨rfl, rfl, rfl, by decide +kernel, rfl, by decide +kernel, by decide +kernel⟩
abbrev s_law_value : Stmt := topS 6
theorem sc_law_value : FnScope ["_law_hand", "_law_depth", "_law_many", "_law_k"] ["_law_hand", "_law_depth"] (defScope s_law_value) := ⟨rfl, rfl, rfl, by decide +kernel, rfl, by decide +kernel, by decide +kernel⟩
abbrev s_law_like : Stmt := topS 7
theorem sc_law_like : FnScope ["_law_found", "_law_expected", "_law_pairs", "_law_step", "_law_at", "_law_first", "_law_second"] ["_law_found", "_law_expected"] (defScope s_law_like) := ⟨rfl, rfl, rfl, by decide +kernel, rfl, by decide +kernel, by decide +kernel⟩
abbrev s_law_again : Stmt := topS 8
theorem sc_law_again : FnScope ["_law_value_here", "_law_one"] ["_law_value_here"] (defScope s_law_again) := ⟨rfl, rfl, rfl, by decide +kernel, rfl, by decide +kernel, by decide +kernel⟩
abbrev s_law_bent : Stmt := topS 9
theorem sc_law_bent : FnScope ["_law_hand", "_law_value_here", "_law_kind", "_law_at"] ["_law_hand", "_law_value_here"] (defScope s_law_bent) := ⟨rfl, rfl, rfl, by decide +kernel, rfl, by decide +kernel, by decide +kernel⟩
abbrev s_law_nested : Stmt := topS 10
theorem sc_law_nested : FnScope ["_law_value_here", "_law_many", "_law_kind", "_law_other", "_law_k", "_law_word_here", "_law_place"] ["_law_value_here", "_law_many", "_law_kind", "_law_other"] (defScope s_law_nested) := ⟨rfl, rfl, rfl, by decide +kernel, rfl, by decide +kernel, by decide +kernel⟩
abbrev s_law_tells : Stmt := topS 11
theorem sc_law_tells : FnScope ["_law_first", "_law_second", "_law_due", "_law_pair", "_law_found"] ["_law_first", "_law_second", "_law_due"] (defScope s_law_tells) := ⟨rfl, rfl, rfl, by decide +kernel, rfl, by decide +kernel, by decide +kernel⟩
abbrev s_law : Stmt := topS 12
theorem sc_law : FnScope ["_law_script", "_law_hand", "_law_value_here", "_law_other", "_law_second", "_law_due", "_law_many", "_law_kind", "_law_first", "_law_place", "_law_has_word"] ["_law_script"] (defScope s_law) := ⟨rfl, rfl, rfl, by decide +kernel, rfl, by decide +kernel, by decide +kernel⟩
structure Top (K : PySem.W.Frag) (mg : Str → Option Value) : Type where
  a_same_values : Addr
  d_same_values : FuncData
  F_same_values : Fun K "same_values" "same_values" s_same_values a_same_values d_same_values
  b_same_values : Binds K d_same_values ["first", "second"] []
  m_same_values : mg "same_values" = some (.ref a_same_values)
  a_law_draws : Addr
  d_law_draws : FuncData
  F_law_draws : Fun K "_law_draws" "_law_draws" s_law_draws a_law_draws d_law_draws
  b_law_draws : Binds K d_law_draws ["_law_script", "_law_many"] []
  m_law_draws : mg "_law_draws" = some (.ref a_law_draws)
  a_law_take : Addr
  d_law_take : FuncData
  F_law_take : Fun K "_law_take" "_law_take" s_law_take a_law_take d_law_take
  b_law_take : Binds K d_law_take ["_law_hand", "_law_many"] []
  m_law_take : mg "_law_take" = some (.ref a_law_take)
  a_law_word : Addr
  d_law_word : FuncData
  F_law_word : Fun K "_law_word" "_law_word" s_law_word a_law_word d_law_word
  b_law_word : Binds K d_law_word ["_law_hand"] []
  m_law_word : mg "_law_word" = some (.ref a_law_word)
  a_law_value : Addr
  d_law_value : FuncData
  F_law_value : Fun K "_law_value" "_law_value" s_law_value a_law_value d_law_value
  b_law_value : Binds K d_law_value ["_law_hand", "_law_depth"] []
  m_law_value : mg "_law_value" = some (.ref a_law_value)
  a_law_like : Addr
  d_law_like : FuncData
  F_law_like : Fun K "_law_like" "_law_like" s_law_like a_law_like d_law_like
  b_law_like : Binds K d_law_like ["_law_found", "_law_expected"] []
  m_law_like : mg "_law_like" = some (.ref a_law_like)
  a_law_again : Addr
  d_law_again : FuncData
  F_law_again : Fun K "_law_again" "_law_again" s_law_again a_law_again d_law_again
  b_law_again : Binds K d_law_again ["_law_value_here"] []
  m_law_again : mg "_law_again" = some (.ref a_law_again)
  a_law_bent : Addr
  d_law_bent : FuncData
  F_law_bent : Fun K "_law_bent" "_law_bent" s_law_bent a_law_bent d_law_bent
  b_law_bent : Binds K d_law_bent ["_law_hand", "_law_value_here"] []
  m_law_bent : mg "_law_bent" = some (.ref a_law_bent)
  a_law_nested : Addr
  d_law_nested : FuncData
  F_law_nested : Fun K "_law_nested" "_law_nested" s_law_nested a_law_nested d_law_nested
  b_law_nested : Binds K d_law_nested ["_law_value_here", "_law_many", "_law_kind", "_law_other"] []
  m_law_nested : mg "_law_nested" = some (.ref a_law_nested)
  a_law_tells : Addr
  d_law_tells : FuncData
  F_law_tells : Fun K "_law_tells" "_law_tells" s_law_tells a_law_tells d_law_tells
  b_law_tells : Binds K d_law_tells ["_law_first", "_law_second", "_law_due"] []
  m_law_tells : mg "_law_tells" = some (.ref a_law_tells)
  a_law : Addr
  d_law : FuncData
  F_law : Fun K "law" "law" s_law a_law d_law
  b_law : Binds K d_law ["_law_script"] []
  m_law : mg "law" = some (.ref a_law)
  n_len : mg "len" = none
  n_isinstance : mg "isinstance" = none
  n_str : mg "str" = none
  n_list : mg "list" = none
  n_zip : mg "zip" = none
  n_range : mg "range" = none
  n_abs : mg "abs" = none
  n_int : mg "int" = none
  n_tuple : mg "tuple" = none
  n_bool : mg "bool" = none
def all_mk {K : PySem.W.Frag} {h : Heap} {mg : Str → Option Value} (X : K.In h) (G : h.Ns mainGlobals mg)
    {f0 : Addr} {od0 an0 : Option Addr} {sl0 : Array (Option Value)} {oc0 kV0 dc0 pm0 cd0 ct0 : Value}
    (qa0 : PySem.W.nsIn K mainGlobals "same_values" = some (some (.ref f0))) (ql0 : K.lookup f0 = some ⟨oc0, od0, .func (PySem.W.fnOf "same_values" "same_values" (defArgs s_same_values) (defBody s_same_values) (defScope s_same_values) .none kV0 dc0 pm0 an0 cd0 ct0), sl0⟩) (qc0 : PySem.W.codeIn K cd0 "same_values" = true) (qk0 : PySem.W.keepIn K (.ref f0) = true)
    {f1 : Addr} {od1 an1 : Option Addr} {sl1 : Array (Option Value)} {oc1 kV1 dc1 pm1 cd1 ct1 : Value}
    (qa1 : PySem.W.nsIn K mainGlobals "_law_draws" = some (some (.ref f1))) (ql1 : K.lookup f1 = some ⟨oc1, od1, .func (PySem.W.fnOf "_law_draws" "_law_draws" (defArgs s_law_draws) (defBody s_law_draws) (defScope s_law_draws) .none kV1 dc1 pm1 an1 cd1 ct1), sl1⟩) (qc1 : PySem.W.codeIn K cd1 "_law_draws" = true) (qk1 : PySem.W.keepIn K (.ref f1) = true)
    {f2 : Addr} {od2 an2 : Option Addr} {sl2 : Array (Option Value)} {oc2 kV2 dc2 pm2 cd2 ct2 : Value}
    (qa2 : PySem.W.nsIn K mainGlobals "_law_take" = some (some (.ref f2))) (ql2 : K.lookup f2 = some ⟨oc2, od2, .func (PySem.W.fnOf "_law_take" "_law_take" (defArgs s_law_take) (defBody s_law_take) (defScope s_law_take) .none kV2 dc2 pm2 an2 cd2 ct2), sl2⟩) (qc2 : PySem.W.codeIn K cd2 "_law_take" = true) (qk2 : PySem.W.keepIn K (.ref f2) = true)
    {f3 : Addr} {od3 an3 : Option Addr} {sl3 : Array (Option Value)} {oc3 kV3 dc3 pm3 cd3 ct3 : Value}
    (qa3 : PySem.W.nsIn K mainGlobals "_law_word" = some (some (.ref f3))) (ql3 : K.lookup f3 = some ⟨oc3, od3, .func (PySem.W.fnOf "_law_word" "_law_word" (defArgs s_law_word) (defBody s_law_word) (defScope s_law_word) .none kV3 dc3 pm3 an3 cd3 ct3), sl3⟩) (qc3 : PySem.W.codeIn K cd3 "_law_word" = true) (qk3 : PySem.W.keepIn K (.ref f3) = true)
    {f4 : Addr} {od4 an4 : Option Addr} {sl4 : Array (Option Value)} {oc4 kV4 dc4 pm4 cd4 ct4 : Value}
    (qa4 : PySem.W.nsIn K mainGlobals "_law_value" = some (some (.ref f4))) (ql4 : K.lookup f4 = some ⟨oc4, od4, .func (PySem.W.fnOf "_law_value" "_law_value" (defArgs s_law_value) (defBody s_law_value) (defScope s_law_value) .none kV4 dc4 pm4 an4 cd4 ct4), sl4⟩) (qc4 : PySem.W.codeIn K cd4 "_law_value" = true) (qk4 : PySem.W.keepIn K (.ref f4) = true)
    {f5 : Addr} {od5 an5 : Option Addr} {sl5 : Array (Option Value)} {oc5 kV5 dc5 pm5 cd5 ct5 : Value}
    (qa5 : PySem.W.nsIn K mainGlobals "_law_like" = some (some (.ref f5))) (ql5 : K.lookup f5 = some ⟨oc5, od5, .func (PySem.W.fnOf "_law_like" "_law_like" (defArgs s_law_like) (defBody s_law_like) (defScope s_law_like) .none kV5 dc5 pm5 an5 cd5 ct5), sl5⟩) (qc5 : PySem.W.codeIn K cd5 "_law_like" = true) (qk5 : PySem.W.keepIn K (.ref f5) = true)
    {f6 : Addr} {od6 an6 : Option Addr} {sl6 : Array (Option Value)} {oc6 kV6 dc6 pm6 cd6 ct6 : Value}
    (qa6 : PySem.W.nsIn K mainGlobals "_law_again" = some (some (.ref f6))) (ql6 : K.lookup f6 = some ⟨oc6, od6, .func (PySem.W.fnOf "_law_again" "_law_again" (defArgs s_law_again) (defBody s_law_again) (defScope s_law_again) .none kV6 dc6 pm6 an6 cd6 ct6), sl6⟩) (qc6 : PySem.W.codeIn K cd6 "_law_again" = true) (qk6 : PySem.W.keepIn K (.ref f6) = true)
    {f7 : Addr} {od7 an7 : Option Addr} {sl7 : Array (Option Value)} {oc7 kV7 dc7 pm7 cd7 ct7 : Value}
    (qa7 : PySem.W.nsIn K mainGlobals "_law_bent" = some (some (.ref f7))) (ql7 : K.lookup f7 = some ⟨oc7, od7, .func (PySem.W.fnOf "_law_bent" "_law_bent" (defArgs s_law_bent) (defBody s_law_bent) (defScope s_law_bent) .none kV7 dc7 pm7 an7 cd7 ct7), sl7⟩) (qc7 : PySem.W.codeIn K cd7 "_law_bent" = true) (qk7 : PySem.W.keepIn K (.ref f7) = true)
    {f8 : Addr} {od8 an8 : Option Addr} {sl8 : Array (Option Value)} {oc8 kV8 dc8 pm8 cd8 ct8 : Value}
    (qa8 : PySem.W.nsIn K mainGlobals "_law_nested" = some (some (.ref f8))) (ql8 : K.lookup f8 = some ⟨oc8, od8, .func (PySem.W.fnOf "_law_nested" "_law_nested" (defArgs s_law_nested) (defBody s_law_nested) (defScope s_law_nested) .none kV8 dc8 pm8 an8 cd8 ct8), sl8⟩) (qc8 : PySem.W.codeIn K cd8 "_law_nested" = true) (qk8 : PySem.W.keepIn K (.ref f8) = true)
    {f9 : Addr} {od9 an9 : Option Addr} {sl9 : Array (Option Value)} {oc9 kV9 dc9 pm9 cd9 ct9 : Value}
    (qa9 : PySem.W.nsIn K mainGlobals "_law_tells" = some (some (.ref f9))) (ql9 : K.lookup f9 = some ⟨oc9, od9, .func (PySem.W.fnOf "_law_tells" "_law_tells" (defArgs s_law_tells) (defBody s_law_tells) (defScope s_law_tells) .none kV9 dc9 pm9 an9 cd9 ct9), sl9⟩) (qc9 : PySem.W.codeIn K cd9 "_law_tells" = true) (qk9 : PySem.W.keepIn K (.ref f9) = true)
    {f10 : Addr} {od10 an10 : Option Addr} {sl10 : Array (Option Value)} {oc10 kV10 dc10 pm10 cd10 ct10 : Value}
    (qa10 : PySem.W.nsIn K mainGlobals "law" = some (some (.ref f10))) (ql10 : K.lookup f10 = some ⟨oc10, od10, .func (PySem.W.fnOf "law" "law" (defArgs s_law) (defBody s_law) (defScope s_law) .none kV10 dc10 pm10 an10 cd10 ct10), sl10⟩) (qc10 : PySem.W.codeIn K cd10 "law" = true) (qk10 : PySem.W.keepIn K (.ref f10) = true)
    (qz0 : PySem.W.nsIn K mainGlobals "len" = some none)
    (qz1 : PySem.W.nsIn K mainGlobals "isinstance" = some none)
    (qz2 : PySem.W.nsIn K mainGlobals "str" = some none)
    (qz3 : PySem.W.nsIn K mainGlobals "list" = some none)
    (qz4 : PySem.W.nsIn K mainGlobals "zip" = some none)
    (qz5 : PySem.W.nsIn K mainGlobals "range" = some none)
    (qz6 : PySem.W.nsIn K mainGlobals "abs" = some none)
    (qz7 : PySem.W.nsIn K mainGlobals "int" = some none)
    (qz8 : PySem.W.nsIn K mainGlobals "tuple" = some none)
    (qz9 : PySem.W.nsIn K mainGlobals "bool" = some none) : Top K mg := by
  have F0 := fun_mk (st := s_same_values) ql0 qc0 qk0
  have b0 := F0.binds (ps := ["first", "second"]) fun _ _ _ _ _ _ us hl => match us, hl with | [_, _], _ => rfl
  have F1 := fun_mk (st := s_law_draws) ql1 qc1 qk1
  have b1 := F1.binds (ps := ["_law_script", "_law_many"]) fun _ _ _ _ _ _ us hl => match us, hl with | [_, _], _ => rfl
  have F2 := fun_mk (st := s_law_take) ql2 qc2 qk2
  have b2 := F2.binds (ps := ["_law_hand", "_law_many"]) fun _ _ _ _ _ _ us hl => match us, hl with | [_, _], _ => rfl
  have F3 := fun_mk (st := s_law_word) ql3 qc3 qk3
  have b3 := F3.binds (ps := ["_law_hand"]) fun _ _ _ _ _ _ us hl => match us, hl with | [_], _ => rfl
  have F4 := fun_mk (st := s_law_value) ql4 qc4 qk4
  have b4 := F4.binds (ps := ["_law_hand", "_law_depth"]) fun _ _ _ _ _ _ us hl => match us, hl with | [_, _], _ => rfl
  have F5 := fun_mk (st := s_law_like) ql5 qc5 qk5
  have b5 := F5.binds (ps := ["_law_found", "_law_expected"]) fun _ _ _ _ _ _ us hl => match us, hl with | [_, _], _ => rfl
  have F6 := fun_mk (st := s_law_again) ql6 qc6 qk6
  have b6 := F6.binds (ps := ["_law_value_here"]) fun _ _ _ _ _ _ us hl => match us, hl with | [_], _ => rfl
  have F7 := fun_mk (st := s_law_bent) ql7 qc7 qk7
  have b7 := F7.binds (ps := ["_law_hand", "_law_value_here"]) fun _ _ _ _ _ _ us hl => match us, hl with | [_, _], _ => rfl
  have F8 := fun_mk (st := s_law_nested) ql8 qc8 qk8
  have b8 := F8.binds (ps := ["_law_value_here", "_law_many", "_law_kind", "_law_other"]) fun _ _ _ _ _ _ us hl => match us, hl with | [_, _, _, _], _ => rfl
  have F9 := fun_mk (st := s_law_tells) ql9 qc9 qk9
  have b9 := F9.binds (ps := ["_law_first", "_law_second", "_law_due"]) fun _ _ _ _ _ _ us hl => match us, hl with | [_, _, _], _ => rfl
  have F10 := fun_mk (st := s_law) ql10 qc10 qk10
  have b10 := F10.binds (ps := ["_law_script"]) fun _ _ _ _ _ _ us hl => match us, hl with | [_], _ => rfl
  exact { a_same_values := _, d_same_values := _, F_same_values := F0, b_same_values := b0, m_same_values := PySem.W.mg_of X G qa0, a_law_draws := _, d_law_draws := _, F_law_draws := F1, b_law_draws := b1, m_law_draws := PySem.W.mg_of X G qa1, a_law_take := _, d_law_take := _, F_law_take := F2, b_law_take := b2, m_law_take := PySem.W.mg_of X G qa2, a_law_word := _, d_law_word := _, F_law_word := F3, b_law_word := b3, m_law_word := PySem.W.mg_of X G qa3, a_law_value := _, d_law_value := _, F_law_value := F4, b_law_value := b4, m_law_value := PySem.W.mg_of X G qa4, a_law_like := _, d_law_like := _, F_law_like := F5, b_law_like := b5, m_law_like := PySem.W.mg_of X G qa5, a_law_again := _, d_law_again := _, F_law_again := F6, b_law_again := b6, m_law_again := PySem.W.mg_of X G qa6, a_law_bent := _, d_law_bent := _, F_law_bent := F7, b_law_bent := b7, m_law_bent := PySem.W.mg_of X G qa7, a_law_nested := _, d_law_nested := _, F_law_nested := F8, b_law_nested := b8, m_law_nested := PySem.W.mg_of X G qa8, a_law_tells := _, d_law_tells := _, F_law_tells := F9, b_law_tells := b9, m_law_tells := PySem.W.mg_of X G qa9, a_law := _, d_law := _, F_law := F10, b_law := b10, m_law := PySem.W.mg_of X G qa10, n_len := PySem.W.mg_none_of X G qz0, n_isinstance := PySem.W.mg_none_of X G qz1, n_str := PySem.W.mg_none_of X G qz2, n_list := PySem.W.mg_none_of X G qz3, n_zip := PySem.W.mg_none_of X G qz4, n_range := PySem.W.mg_none_of X G qz5, n_abs := PySem.W.mg_none_of X G qz6, n_int := PySem.W.mg_none_of X G qz7, n_tuple := PySem.W.mg_none_of X G qz8, n_bool := PySem.W.mg_none_of X G qz9 }
/-! ### _law_draws, _law_take -/
theorem pos1 : (0 : Int) < 2147483647 := by decide
theorem pos2 : (0 : Int) < 2147483629 := by decide
theorem pos3 : (0 : Int) < 1000003 := by decide
theorem scr_len {ns : List Int} (h : ns.length ≤ 63) : (ns.map V.int).length ≤ 63 := by rw [List.length_map]; exact h
def spDraws (K : PySem.W.Frag) : Sp := fun vs H Q _ => ∃ (a : Addr) (ns : List Int) (many : Nat), vs = [.ref a, .int (many : Int)] ∧ SqL K H a (ns.map V.int) ∧ ns.length ≤ 63 ∧ many ≤ 100000 ∧
  ∀ (p : Addr) (H' : Hp) (ds : List Int), Same H H' → H p = none → H' p = some (.lst (ds.map V.int)) → ds.length = many → (∀ x ∈ ds, 0 ≤ x ∧ x < 2147483629) → Q (.ref p) H'
def spTake : Sp := fun vs H Q _ => ∃ (h d : Addr) (ds : List Int) (m : Int), vs = [.ref h, .int m] ∧ Hnd H h d ds ∧ 0 < m ∧
  ∀ (r : Int) (H' : Hp), 0 ≤ r → r < m → Kp (At h) H H' → Hnd H' h d ds → Q (.int r) H'
theorem ok_take {P : Program} {w : World} {K : PySem.W.Frag} {mg : Str → Option Value} {base : Heap} (T : Top K mg) {k : Nat} : FnOk P w K mg base CX0 (k + 1) T.a_law_take T.d_law_take ["_law_hand", "_law_many"] spTake := by
  refine T.F_law_take.ok sc_law_take (fun vs H Q E h => ?_) (fun cdv A outer s H vs Q E hr h => ?_)
  · obtain ⟨h, d, ds, m, rfl, _⟩ := h
    rfl
  obtain ⟨h, d, ds, m, rfl, hh, hm, q⟩ := h
  refine ⟨_, (pss_cons (ps_set (i := 2) sc_law_take.nd rfl (Or.inl rfl) (pe_ix ix_list (pv 0) pe_int (fun _ _ => rfl)))
    (pss_cons (ps_asg (pe_op op_add (pv 2) pe_int) (pg_sub (pv 0) pe_int set_list))
    (pss_cons (ps_set (i := 3) sc_law_take.nd rfl (Or.inl rfl) (pe_ix ix_list (pv 0) pe_int (fun _ _ => rfl)))
    (pss_cons (ps_if (pt_cmpR op_ge (pv 2) (pe_callB call_len_seq rfl T.n_len bo_len (pa_cons (pv 3) pa_nil)) (nomark _)) (pss_one (ps_ret pe_int)) pss_nil)
    (pss_one (ps_ret (pe_op op_mod (pe_op op_fdiv (pe_callTy call_int1 rfl T.n_int bo_int (pa_cons (pe_ix ix_list (pv 3) (pv 2) (fun _ _ => rfl)) pa_nil)) pe_int) (pv 1)))))))), ?_⟩
  obtain ⟨⟨i, e1, i0⟩, e2, ne, nn⟩ := hh
  refine ⟨_, rfl, h, [.ref d, .int i], 1, .int i, rfl, rfl, SqL.of e1, rfl, ?_⟩
  refine ⟨_, rfl, _, _, rfl, rfl, _, rfl, h, [.ref d, .int i], 1, 1, rfl, rfl, e1, rfl, ?_⟩
  have k1 : Kp (At h) H (upd H h (.lst [.ref d, .int (i + 1)])) := Kp.refl.put (.inl rfl)
  have e3 : (upd H h (.lst [.ref d, .int (i + 1)])) d = some (.lst (ds.map V.int)) := by rw [upd_ne ne]; exact e2
  have h1 : Hnd (upd H h (.lst [.ref d, .int (i + 1)])) h d ds := ⟨⟨i + 1, upd_same, by omega⟩, e3, ne, nn⟩
  refine ⟨_, rfl, h, [.ref d, .int (i + 1)], 0, .ref d, rfl, rfl, SqL.of upd_same, rfl, ?_⟩
  refine ⟨_, rfl, _, rfl, d, ds.map V.int, rfl, .inl (SqL.of e3), _, _, rfl, rfl, _, rfl, ?_⟩
  refine ite2 (fun c => ?_) (fun c => ?_)
  · exact q 0 _ (Int.le_refl 0) hm k1 h1
  · have c' : ¬ (((ds.map V.int).length : Nat) : Int) ≤ i := of_decide_eq_false (Bool.eq_false_iff.mpr c)
    rw [List.length_map] at c'
    have hi : i.toNat < ds.length := by omega
    have q2 := atI_map i0 hi
    refine ⟨_, rfl, _, rfl, d, _, i, _, rfl, rfl, SqL.of e3, q2, .inl ⟨_, rfl, ?_⟩⟩
    refine ⟨_, _, rfl, rfl, ⟨by decide, by decide⟩, _, rfl, _, _, rfl, rfl, hm, ?_⟩
    have g0 : 0 ≤ ds[i.toNat] := nn _ (List.getElem_mem hi)
    exact q _ _ (Int.emod_nonneg _ (by omega)) (Int.emod_lt_of_pos _ hm) k1 h1

theorem ok_draws {P : Program} {w : World} {K : PySem.W.Frag} {mg : Str → Option Value} {base : Heap} (T : Top K mg) {k : Nat} : FnOk P w K mg base CX0 (k + 1) T.a_law_draws T.d_law_draws ["_law_script", "_law_many"] (spDraws K) := by
  refine T.F_law_draws.ok sc_law_draws (fun vs H Q E h => ?_) (fun cdv A outer s H vs Q E hr h => ?_)
  · obtain ⟨a, ns, many, rfl, _⟩ := h
    rfl
  obtain ⟨a, ns, many, rfl, hS, h63, hmany, q⟩ := h
  refine ⟨_, (pss_cons (ps_setLc (i := 2) (own := [("_law_cell", 5)]) (g := gName 5) (tt := tYes) (by rfl) sc_law_draws.nd rfl rfl (sw_true rfl rfl rfl (by decide +kernel)) (pi_list (pv 0)) (blkOk_by (N := ["_law_script", "_law_many", "_law_rests", "_law_draws_here", "_law_k", "_law_cell", "_law_mixed", "_law_at"]) (sc := defScope s_law_draws) (by decide +kernel)) (fun _ _ _ _ _ => pg_name (i := 5) sc_law_draws.nd rfl (Or.inl rfl)) (fun _ _ _ _ _ => pts_nil) (fun _ _ _ _ _ => (pe_callB call_abs rfl T.n_abs bo_abs (pa_cons (pe_callTy call_int1 rfl T.n_int bo_int (pa_cons (pv 5) pa_nil)) pa_nil))))
    (pss_cons (ps_set (i := 3) sc_law_draws.nd rfl (Or.inl rfl) (pe_lst pa_nil))
    (pss_cons (ps_for PassesOwn.never rfl (pi_range1 rfl T.n_range (pa_cons (pv 1) pa_nil)) (pg_name (i := 4) sc_law_draws.nd rfl (Or.inl rfl)) (pss_cons (ps_set (i := 5) sc_law_draws.nd rfl (Or.inl rfl) (pv 4))
    (C8.pss_cut (ps_if (pt_cmpR op_gt (pe_callB call_len_seq rfl T.n_len bo_len (pa_cons (pv 0) pa_nil)) pe_int (nomark _)) (pss_cons (ps_set (i := 7) sc_law_draws.nd rfl (Or.inl rfl) (pe_op op_mod (pv 4) (pe_callB call_len_seq rfl T.n_len bo_len (pa_cons (pv 0) pa_nil))))
    (pss_cons (ps_set (i := 5) sc_law_draws.nd rfl (Or.inl rfl) (pe_callTy call_int1 rfl T.n_int bo_int (pa_cons (pe_ix ix_list (pv 0) (pv 7) (fun _ _ => rfl)) pa_nil)))
    (pss_one (ps_if (PW.pt (pw_and (pt_cmpR op_ge (pv 5) (pe_op op_pow pe_int pe_int) (nomark _)) (pw_and1 (pt_cmpR op_gt (pe_ix ix_list (pv 2) (pv 7) (fun _ _ => rfl)) pe_int (nomark _))))) (pss_cons (ps_expr (pe_bm PySem.F.plainAttrs_list PySem.F.slot_list_append PySem.F.type_list_append mt_append (pv 3) (pa_cons (pe_op op_mod (pe_callTy call_int1 rfl T.n_int bo_int (pa_cons (pe_ix ix_list (pv 2) (pv 7) (fun _ _ => rfl)) pa_nil)) pe_int) pa_nil)))
    (pss_cons (ps_asg (pe_op op_fdiv (pe_callTy call_int1 rfl T.n_int bo_int (pa_cons (pe_ix ix_list (pv 2) (pv 7) (fun _ _ => rfl)) pa_nil)) pe_int) (pg_sub (pv 2) (pv 7) set_list))
    (pss_one ps_continue))) pss_nil)))) pss_nil)
    (pss_cons (ps_set (i := 6) sc_law_draws.nd rfl (Or.inl rfl) (pe_op op_mod (pe_callTy call_int1 rfl T.n_int bo_int (pa_cons (pe_op op_add (pe_op op_add (pe_op op_mul (pv 5) pe_int) (pe_op op_mul (pv 4) pe_int)) pe_int) pa_nil)) pe_int))
    (pss_cons (ps_set (i := 6) sc_law_draws.nd rfl (Or.inl rfl) (pe_op op_mod (pe_callTy call_int1 rfl T.n_int bo_int (pa_cons (pe_op op_add (pe_op op_fdiv (pe_op op_mul (pv 6) (pv 6)) pe_int) (pv 6)) pa_nil)) pe_int))
    (pss_one (ps_expr (pe_bm PySem.F.plainAttrs_list PySem.F.slot_list_append PySem.F.type_list_append mt_append (pv 3) (pa_cons (pe_op op_mod (pe_callTy call_int1 rfl T.n_int bo_int (pa_cons (pe_op op_add (pe_op op_fdiv (pe_op op_mul (pv 6) (pv 6)) pe_int) (pe_op op_mul (pv 4) pe_int)) pa_nil)) pe_int) pa_nil)))))))))
    (pss_one (ps_ret (pv 3)))))), ?_⟩
  have l63 : (ns.map V.int).length = ns.length := List.length_map _
  refine ⟨.ref a, rfl, a, rfl, ⟨_, hS⟩, fun D hD => lc_list (K := K) (a := a) (xs := ns.map V.int)
    (fun i H' => ∃ rs : List Int, Same H H' ∧ H' D = some (.lst (rs.map V.int)) ∧ rs.length = i ∧ ∀ x ∈ rs, 0 ≤ x)
    ⟨[], same_new hD, upd_same, rfl, fun _ h => nomatch h⟩ (fun i H' _ h => let ⟨_, s2, _⟩ := h; s2.seq hS) (fun i x H2 hx h => ?_) (fun H2 h => ?_)⟩
  · obtain ⟨rs, s2, e2, l2, p2⟩ := h
    rw [List.getElem?_map] at hx
    obtain ⟨n, hn, rfl⟩ := Option.map_eq_some_iff.mp hx
    have hi : i < ns.length := (List.getElem?_eq_some_iff.mp hn).1
    refine ⟨rfl, _, rfl, .inl ⟨n, rfl, n, rfl, _, e2, szl (by rw [List.length_map]; omega), rs ++ [if n < 0 then -n else n], fun b o e => ?_, ?_, by simp [l2], fun x hx => ?_⟩⟩
    · have nb : b ≠ D := ne_of_none e hD
      rw [upd_ne nb]; exact s2 b o e
    · rw [upd_same]; simp
    · rcases List.mem_append.mp hx with z | z
      · exact p2 x z
      · have := List.mem_singleton.mp z
        subst this
        split <;> omega
  obtain ⟨rs, s2, e2, l2, p2⟩ := h
  rw [l63] at l2
  refine ⟨Nat.zero_le _, fun L nL => ?_⟩
  have nDL : D ≠ L := ne_of_none e2 nL
  refine ⟨_, rfl, (many : Int), rfl, by omega, by omega, ?_⟩
  refine for_range (lo := 0) (n := (many : Int).toNat) (fun i σ H3 => ∃ (rs ds : List Int) (y4 y5 y6 y7 : Option V), σ = [some (.ref a), some (.int many), some (.ref D), some (.ref L), y4, y5, y6, y7] ∧ Same H H3 ∧
    H3 D = some (.lst (rs.map V.int)) ∧ rs.length = ns.length ∧ (∀ x ∈ rs, 0 ≤ x) ∧ H3 L = some (.lst (ds.map V.int)) ∧ ds.length = i ∧ (∀ x ∈ ds, 0 ≤ x ∧ x < 2147483629))
    ⟨rs, [], none, none, none, none, rfl, s2.trans (same_new nL), by rw [upd_ne nDL]; exact e2, l2, p2, upd_same, rfl, fun _ h => nomatch h⟩ (fun i σ H3 hi hP => ?_) (fun σ H3 hP => ?_)
  · obtain ⟨rs, ds, y4, y5, y6, y7, rfl, s3, e3, l3, p3, f3, m3, b3⟩ := hP
    have hm : ds.length ≤ 100000 := by omega
    have put1 : ∀ (z : Int) (H4 : Hp), Same H H4 → Same H (upd H4 L (.lst ((ds.map V.int) ++ [.int z]))) := fun z H4 s4 b o e => by
      rw [upd_ne (ne_of_none (s2 b o e) nL)]; exact s4 b o e
    -- cell = k
    refine ⟨.int (0 + i), rfl, ?_⟩
    -- if len(script) > 0
    refine ⟨fun σ H4 => ∃ (c : Int) (y6 y7 : Option V), σ = [some (.ref a), some (.int many), some (.ref D), some (.ref L), some (.int (0 + i)), some (.int c), y6, y7] ∧ H4 = H3, ?_, ?_⟩
    · refine ⟨_, rfl, a, _, rfl, .inl (s3.seq hS), _, _, rfl, rfl, _, rfl, ?_⟩
      refine ite2 (fun c => ?_) (fun _ => ⟨_, _, _, rfl, rfl⟩)
      have c' := of_decide_eq_true c
      rw [l63] at c'
      have hpos : (0 : Int) < ((ns.map V.int).length : Nat) := by rw [l63]; omega
      refine ⟨_, rfl, _, rfl, a, _, rfl, .inl (s3.seq hS), _, _, rfl, rfl, hpos, ?_⟩
      have b0 : 0 ≤ (0 + (i : Int)) % ((ns.map V.int).length : Nat) := Int.emod_nonneg _ (by omega)
      have b1 : (0 + (i : Int)) % ((ns.map V.int).length : Nat) < ((ns.map V.int).length : Nat) := Int.emod_lt_of_pos _ hpos
      dsimp only
      generalize (0 + (i : Int)) % ((ns.map V.int).length : Nat) = j at b0 b1 ⊢
      rw [l63] at b1
      refine ⟨_, rfl, _, rfl, a, _, j, _, rfl, rfl, s3.seq hS, atI_map b0 (by omega), .inl ⟨_, rfl, ?_⟩⟩
      refine ⟨_, rfl, _, _, rfl, rfl, ⟨by decide, by decide, by decide⟩, _, _, rfl, rfl, _, rfl, ?_⟩
      refine ite2 (fun c2 => ?_) (fun _ => iteF ⟨_, _, _, rfl, rfl⟩)
      refine ⟨_, rfl, _, rfl, D, _, j, _, rfl, rfl, SqL.of e3, atI_map b0 (by omega), _, _, rfl, rfl, _, rfl, ?_⟩
      refine ite2 (fun c3 => ?_) (fun _ => ⟨_, _, _, rfl, rfl⟩)
      -- append
      refine ⟨_, rfl, .inl ⟨rfl, _, SqL.of f3⟩, _, rfl, _, rfl, D, _, j, _, rfl, rfl, SqL.of e3, atI_map b0 (by omega), .inl ⟨_, rfl, ?_⟩⟩
      refine ⟨_, _, rfl, rfl, pos3, L, _, _, rfl, rfl, f3, szl (by rw [List.length_map]; omega), ?_⟩
      have r0 : 0 ≤ rs[j.toNat]'(by omega) := p3 _ (List.getElem_mem _)
      dsimp only
      generalize rs[j.toNat]'(by omega) = rj at r0 ⊢
      -- rests[at] = ..
      have e3' : (upd H3 L (.lst ((ds.map V.int) ++ [.int (rj % 1000003)]))) D = some (.lst (rs.map V.int)) := by rw [upd_ne nDL]; exact e3
      refine ⟨_, rfl, _, rfl, D, _, j, _, rfl, rfl, SqL.of e3', atI_map b0 (by omega), .inl ⟨_, rfl, ?_⟩⟩
      refine ⟨_, _, rfl, rfl, ⟨by decide, by decide⟩, _, rfl, _, rfl, D, _, j, _, rfl, rfl, e3', ixN_of b0 (by rw [List.length_map]; omega), ?_⟩
      have r0' : 0 ≤ rs[j.toNat]'(by omega) := p3 _ (List.getElem_mem _)
      dsimp only
      generalize rs[j.toNat]'(by omega) = rj' at r0' ⊢
      refine ⟨rs.set j.toNat (rj' / 1000003), ds ++ [rj % 1000003], _, _, _, _, rfl, fun b o e => ?_, ?_, by simp [l3], fun x hx => ?_, ?_, by simp [m3], fun x hx => ?_⟩
      · rw [upd_ne (ne_of_none e hD)]
        exact put1 _ _ s3 b o e
      · rw [upd_same, List.map_set]
      · rcases List.mem_or_eq_of_mem_set hx with z | z
        · exact p3 x z
        · subst z; exact Int.ediv_nonneg r0' (by decide)
      · rw [upd_ne nDL.symm, upd_same]; simp
      · rcases List.mem_append.mp hx with z | z
        · exact b3 x z
        · have := List.mem_singleton.mp z
          subst this
          have := Int.emod_nonneg rj (show (1000003 : Int) ≠ 0 by decide)
          have := Int.emod_lt_of_pos rj (show (0 : Int) < 1000003 by decide)
          omega
    · rintro σ H4 ⟨c, y6, y7, rfl, rfl⟩
      refine ⟨_, rfl, _, _, rfl, rfl, .inr ⟨by decide, by decide⟩, _, rfl, _, _, rfl, rfl, .inr ⟨by decide, by decide⟩, _, _, rfl, rfl, _, _, rfl, rfl, .inl ⟨_, rfl, _, _, rfl, rfl, pos1, ?_⟩⟩
      have g0 := Int.emod_nonneg (c * 48271 + (0 + (i : Int)) * 69621 + 11) (show (2147483647 : Int) ≠ 0 by decide)
      have g1 := Int.emod_lt_of_pos (c * 48271 + (0 + (i : Int)) * 69621 + 11) (show (0 : Int) < 2147483647 by decide)
      dsimp only
      generalize (c * 48271 + (0 + (i : Int)) * 69621 + 11) % 2147483647 = m1 at g0 g1 ⊢
      refine ⟨_, rfl, _, rfl, _, _, rfl, rfl, .inl ⟨by omega, by omega⟩, _, _, rfl, rfl, ⟨by decide, by decide⟩, _, rfl, _, _, rfl, rfl, .inl ⟨_, rfl, _, _, rfl, rfl, pos2, ?_⟩⟩
      have g0 := Int.emod_nonneg (m1 * m1 / 4096 + m1) (show (2147483629 : Int) ≠ 0 by decide)
      have g1 := Int.emod_lt_of_pos (m1 * m1 / 4096 + m1) (show (0 : Int) < 2147483629 by decide)
      dsimp only
      generalize (m1 * m1 / 4096 + m1) % 2147483629 = m2 at g0 g1 ⊢
      refine ⟨_, rfl, .inl ⟨rfl, _, SqL.of f3⟩, _, rfl, _, rfl, _, _, rfl, rfl, .inl ⟨by omega, by omega⟩, _, _, rfl, rfl, ⟨by decide, by decide⟩, _, rfl, _, _, rfl, rfl, .inr ⟨by decide, by decide⟩, _, _, rfl, rfl, .inl ⟨_, rfl, _, _, rfl, rfl, pos2, ?_⟩⟩
      have g0 := Int.emod_nonneg (m2 * m2 / 4096 + (0 + (i : Int)) * 7919) (show (2147483629 : Int) ≠ 0 by decide)
      have g1 := Int.emod_lt_of_pos (m2 * m2 / 4096 + (0 + (i : Int)) * 7919) (show (0 : Int) < 2147483629 by decide)
      dsimp only
      generalize (m2 * m2 / 4096 + (0 + (i : Int)) * 7919) % 2147483629 = m3' at g0 g1 ⊢
      refine ⟨L, _, _, rfl, rfl, f3, szl (by rw [List.length_map]; omega), ?_⟩
      refine ⟨rs, ds ++ [m3'], _, _, _, _, rfl, put1 _ _ s3, by rw [upd_ne nDL]; exact e3, l3, p3, by rw [upd_same]; simp, by simp [m3], fun x hx => ?_⟩
      rcases List.mem_append.mp hx with z | z
      · exact b3 x z
      · have := List.mem_singleton.mp z
        subst this
        exact ⟨g0, g1⟩
  · obtain ⟨rs, ds, y4, y5, y6, y7, rfl, s3, e3, l3, p3, f3, m3, b3⟩ := hP
    exact ⟨_, rfl, q L H3 ds s3 (s2.free nL) f3 (by omega) b3⟩

/-! ### _law_word, _law_value, _law_like -/
def spWordH : Sp := fun vs H Q _ => ∃ (h d : Addr) (ds : List Int), vs = [.ref h] ∧ Hnd H h d ds ∧
  ∀ (s : Str) (H' : Hp), WOk s → Kp (At h) H H' → Hnd H' h d ds → Q (.str s) H'
theorem at4 {x y z u : Int} {r : Int} (h0 : 0 ≤ r) (h1 : r < 4) : ∃ v, atI [V.int x, .int y, .int z, .int u] r = some (.int v) ∧ (v = x ∨ v = y ∨ v = z ∨ v = u) := by
  have e : r = 0 ∨ r = 1 ∨ r = 2 ∨ r = 3 := by omega
  rcases e with rfl | rfl | rfl | rfl
  · exact ⟨x, rfl, .inl rfl⟩
  · exact ⟨y, rfl, .inr (.inl rfl)⟩
  · exact ⟨z, rfl, .inr (.inr (.inl rfl))⟩
  · exact ⟨u, rfl, .inr (.inr (.inr rfl))⟩
theorem low26 : lowS.cps.toList.length = 26 := by decide +kernel
theorem aln36 : (lowS ++ figS).cps.toList.length = 36 := by decide +kernel
theorem at_mem {l : List Nat} {n : Nat} (hl : l.length = n) {r : Int} (h0 : 0 ≤ r) (h1 : r < n) : ∃ c, atI l r = some c ∧ c ∈ l := by
  have hr : r.toNat < l.length := by omega
  exact ⟨l[r.toNat], atI_of h0 (List.getElem?_eq_getElem hr), List.getElem_mem _⟩
theorem app_cps (s t : Str) : (s ++ t).cps.toList = s.cps.toList ++ t.cps.toList := by
  show (s.cps ++ t.cps).toList = _
  simp
theorem ok_word {P : Program} {w : World} {K : PySem.W.Frag} {mg : Str → Option Value} {base : Heap} (T : Top K mg) {k : Nat} (G_law_take : FnOk P w K mg base CX0 1 T.a_law_take T.d_law_take ["_law_hand", "_law_many"] spTake) : FnOk P w K mg base CX0 (k + 2) T.a_law_word T.d_law_word ["_law_hand"] spWordH := by
  refine T.F_law_word.ok sc_law_word (fun vs H Q E h => ?_) (fun cdv A outer s H vs Q E hr h => ?_)
  · obtain ⟨h, d, ds, rfl, _⟩ := h
    rfl
  obtain ⟨h, d, ds, rfl, hh, q⟩ := h
  refine ⟨_, (pss_cons (ps_set (i := 1) sc_law_word.nd rfl (Or.inl rfl) pe_str)
    (pss_cons (ps_set (i := 2) sc_law_word.nd rfl (Or.inl rfl) (pe_ix ix_list (pe_lst (pa_cons pe_int (pa_cons pe_int (pa_cons (pe_op op_add pe_int (pe_call G_law_take (hr.mono (by omega)) rfl T.m_law_take T.F_law_take.kp T.b_law_take .nil pass0 (pa_cons (pv 0) (pa_cons pe_int pa_nil)))) (pa_cons pe_int pa_nil))))) (pe_call G_law_take (hr.mono (by omega)) rfl T.m_law_take T.F_law_take.kp T.b_law_take .nil pass0 (pa_cons (pv 0) (pa_cons pe_int pa_nil))) (fun _ _ => rfl)))
    (pss_cons (ps_set (i := 3) sc_law_word.nd rfl (Or.inl rfl) (pe_ix ix_str (pv 1) (pe_call G_law_take (hr.mono (by omega)) rfl T.m_law_take T.F_law_take.kp T.b_law_take .nil pass0 (pa_cons (pv 0) (pa_cons pe_int pa_nil))) (fun _ _ => rfl)))
    (pss_cons (ps_for PassesOwn.never rfl (pi_range1 rfl T.n_range (pa_cons (pe_op op_sub (pv 2) pe_int) pa_nil)) (pg_name (i := 4) sc_law_word.nd rfl (Or.inl rfl)) (pss_one (ps_set (i := 3) sc_law_word.nd rfl (Or.inl rfl) (pe_op op_add_str (pv 3) (pe_ix ix_str (pe_op op_add_str (pv 1) pe_str) (pe_call G_law_take (hr.mono (by omega)) rfl T.m_law_take T.F_law_take.kp T.b_law_take .nil pass0 (pa_cons (pv 0) (pa_cons pe_int pa_nil))) (fun _ _ => rfl))))))
    (pss_one (ps_ret (pv 3))))))), ?_⟩
  refine ⟨_, rfl, h, d, ds, 12, rfl, hh, by decide, fun r1 H1 r1a r1b k1 hh1 => ⟨_, _, rfl, rfl, by show 4 ≤ sizeLine; decide, fun L nL => ?_⟩⟩
  have hh2 := hh1.new (o := .lst [.int 1, .int 2, .int (1 + r1), .int 12]) nL
  refine ⟨_, rfl, h, d, ds, 4, rfl, hh2, by decide, fun r2 H2 r2a r2b k2 hh3 => ?_⟩
  have eL : H2 L = some (.lst [.int 1, .int 2, .int (1 + r1), .int 12]) := k2 L _ (hh1.neH nL) upd_same
  obtain ⟨sz, ea, hs⟩ := at4 (x := 1) (y := 2) (z := 1 + r1) (u := 12) r2a r2b
  have kk : Kp (At h) H H2 := (k1.new nL).trans k2
  refine ⟨L, _, r2, .int sz, rfl, rfl, SqL.of eL, ea, ?_⟩
  refine ⟨_, rfl, _, rfl, h, d, ds, 26, rfl, hh3, by decide, fun r3 H3 r3a r3b k3 hh4 => ?_⟩
  obtain ⟨c, ec, hc⟩ := at_mem low26 r3a r3b
  have hcl : low c = true := decide_eq_true hc
  refine ⟨lowS, r3, c, rfl, rfl, by decide +kernel, ec, ?_⟩
  refine ⟨_, rfl, _, _, rfl, rfl, sz - 1, rfl, by omega, by omega, ?_⟩
  refine for_range (lo := 0) (n := (sz - 1).toNat) (fun i σ H' => ∃ (s : Str) (r : List Nat) (y4 : Option V), σ = [some (.ref h), some (.str lowS), some (.int sz), some (.str s), y4] ∧ s.cps.toList = c :: r ∧ r.length = i ∧ (∀ x ∈ r, alnum x = true) ∧ Kp (At h) H H' ∧ Hnd H' h d ds)
    ⟨⟨#[c]⟩, [], _, rfl, rfl, rfl, fun _ h => absurd h List.not_mem_nil, kk.trans k3, hh4⟩ (fun i σ H' hi hP => ?_) (fun σ H' hP => ?_)
  · obtain ⟨s, r, y4, rfl, es, er, ha, k4, hh5⟩ := hP
    have ls : s.length = i + 1 := by
      rw [← slen, es, List.length_cons, er]
    refine ⟨_, rfl, _, rfl, lowS, figS, rfl, rfl, by decide +kernel, ?_⟩
    refine ⟨_, rfl, h, d, ds, 36, rfl, hh5, by decide, fun r5 H5 r5a r5b k5 hh6 => ?_⟩
    obtain ⟨c5, ec5, hc5⟩ := at_mem aln36 r5a r5b
    refine ⟨lowS ++ figS, r5, c5, rfl, rfl, by decide +kernel, ec5, ?_⟩
    refine ⟨s, ⟨#[c5]⟩, rfl, rfl, ?_, ?_⟩
    · have : (⟨#[c5]⟩ : Str).length = 1 := rfl
      rw [ls, this]; exact OG.sz (by omega)
    · refine ⟨s ++ ⟨#[c5]⟩, r ++ [c5], _, rfl, ?_, by simp [er], fun x hx => ?_, k4.trans k5, hh6⟩
      · rw [app_cps, es]; rfl
      · rcases List.mem_append.mp hx with z | z
        · exact ha x z
        · rw [List.mem_singleton.mp z]; exact decide_eq_true hc5
  · obtain ⟨s, r, y4, rfl, es, er, ha, k4, hh5⟩ := hP
    exact ⟨_, rfl, q s H' ⟨c, r, es, hcl, ha, by omega⟩ k4 hh5⟩
/-- sizes of drawn trees -/
def bd : Nat → Nat
  | 0 => 1
  | n + 1 => 11 * bd n + 1
theorem bd_mono : ∀ {m n : Nat}, m ≤ n → bd m ≤ bd n := by
  intro m n h
  induction h with
  | refl => exact Nat.le_refl _
  | step _ ih => exact Nat.le_trans ih (by show bd _ ≤ 11 * bd _ + 1; omega)
def spValue (K : PySem.W.Frag) (n : Nat) : Sp := fun vs H Q _ => ∃ (h d : Addr) (ds : List Int) (m : Nat), vs = [.ref h, .int (m : Int)] ∧ m < n ∧ Hnd H h d ds ∧
  ∀ (t : Tr) (v : V) (H' : Hp), TOk t → t.depth ≤ m → t.size ≤ bd m → IsT K H' t v → Kp (At h) H H' → Hnd H' h d ds → Q v H'
theorem at2 {x y : Int} {r : Int} (h0 : 0 ≤ r) (h1 : r < 2) : ∃ v, atI [V.int x, .int y] r = some (.int v) ∧ (v = x ∨ v = y) := by
  have e : r = 0 ∨ r = 1 := by omega
  rcases e with rfl | rfl
  · exact ⟨x, rfl, .inl rfl⟩
  · exact ⟨y, rfl, .inr rfl⟩
theorem ok_value {P : Program} {w : World} {K : PySem.W.Frag} {mg : Str → Option Value} {base : Heap} (T : Top K mg) (G_law_take : FnOk P w K mg base CX0 1 T.a_law_take T.d_law_take ["_law_hand", "_law_many"] spTake) (G_law_word : FnOk P w K mg base CX0 2 T.a_law_word T.d_law_word ["_law_hand"] spWordH) :
    ∀ n : Nat, FnOk P w K mg base CX0 (n + 2) T.a_law_value T.d_law_value ["_law_hand", "_law_depth"] (spValue K n) := by
  intro n
  induction n with
  | zero =>
    have no : ∀ vs H Q E, ¬ spValue K 0 vs H Q E := fun vs H Q E h => by
      obtain ⟨_, _, _, m, _, hm, _⟩ := h
      exact Nat.not_lt_zero _ hm
    exact ⟨fun vs H Q E h => absurd h (no vs H Q E), fun A outer s H args us vs Q E _ _ _ _ h => absurd h (no vs H Q E)⟩
  | succ n G_law_value =>
  refine T.F_law_value.ok sc_law_value (fun vs H Q E h => ?_) (fun cdv A outer s H vs Q E hr h => ?_)
  · obtain ⟨h, d, ds, m, rfl, _⟩ := h
    rfl
  obtain ⟨h, d, ds, m, rfl, hm, hh, q⟩ := h
  refine ⟨_, (pss_cons (ps_if (PW.pt (pw_or (pt_cmpR op_eq (pv 1) pe_int (nomark _)) (pw_or1 (pt_cmpR op_eq (pe_call G_law_take (hr.mono (by omega)) rfl T.m_law_take T.F_law_take.kp T.b_law_take .nil pass0 (pa_cons (pv 0) (pa_cons pe_int pa_nil))) pe_int (nomark _))))) (pss_one (ps_ret (pe_call G_law_word (hr.mono (by omega)) rfl T.m_law_word T.F_law_word.kp T.b_law_word .nil pass0 (pa_cons (pv 0) pa_nil)))) pss_nil)
    (pss_cons (ps_set (i := 2) sc_law_value.nd rfl (Or.inl rfl) (pe_ix ix_list (pe_lst (pa_cons (pe_call G_law_take (hr.mono (by omega)) rfl T.m_law_take T.F_law_take.kp T.b_law_take .nil pass0 (pa_cons (pv 0) (pa_cons pe_int pa_nil))) (pa_cons (pe_call G_law_take (hr.mono (by omega)) rfl T.m_law_take T.F_law_take.kp T.b_law_take .nil pass0 (pa_cons (pv 0) (pa_cons pe_int pa_nil))) pa_nil))) (pe_op op_fdiv (pe_call G_law_take (hr.mono (by omega)) rfl T.m_law_take T.F_law_take.kp T.b_law_take .nil pass0 (pa_cons (pv 0) (pa_cons pe_int pa_nil))) pe_int) (fun _ _ => rfl)))
    (pss_one (ps_ret (pe_callTy call_tuple_of rfl T.n_tuple bo_tuple (pa_cons (pe_lc (own := [("_law_k", 3)]) (g := gName 3) (tt := tYes) (by rfl) sc_law_value.nd (pi_range1 rfl T.n_range (pa_cons (pv 2) pa_nil)) (blkOk_by (N := ["_law_hand", "_law_depth", "_law_many", "_law_k"]) (sc := defScope s_law_value) (by decide +kernel)) (fun _ _ _ _ _ => pg_name (i := 3) sc_law_value.nd rfl (Or.inl rfl)) (fun _ _ _ _ _ => pts_nil) (fun _ _ _ _ _ => (pe_call G_law_value (hr.mono (by omega)) rfl T.m_law_value T.F_law_value.kp T.b_law_value .nil pass0 (pa_cons (pv 0) (pa_cons (pe_op op_sub (pv 1) pe_int) pa_nil))))) pa_nil)))))), ?_⟩
  -- a word is handed back
  have wordW : ∀ (H1 : Hp), Kp (At h) H H1 → Hnd H1 h d ds → ∀ (s : Str) (H' : Hp), WOk s → Kp (At h) H1 H' → Hnd H' h d ds → Q (.str s) H' := fun H1 k1 hh1 s H' ok k2 hh2 =>
    q (.w s) _ H' (by simpa [TOk] using ok) (Nat.zero_le _) (by
      have := bd_mono (Nat.zero_le m)
      simpa [Tr.size, bd] using this) IsT.str (k1.trans k2) hh2
  refine ⟨_, rfl, rfl, _, rfl, ?_⟩
  by_cases hm0 : m = 0
  · rw [decide_eq_true (show V.int (m : Int) = V.int 0 by rw [hm0]; rfl)]
    exact ⟨_, rfl, h, d, ds, rfl, hh, fun s H' ok k1 hh1 => wordW H (Kp.refl) hh s H' ok k1 hh1⟩
  rw [decide_eq_false (show ¬ V.int (m : Int) = V.int 0 by intro e; injection e with e; omega)]
  refine ⟨_, rfl, h, d, ds, 3, rfl, hh, by decide, fun r1 H1 r1a r1b k1 hh1 => ⟨rfl, _, rfl, ?_⟩⟩
  refine ite2 (fun _ => ⟨_, rfl, h, d, ds, rfl, hh1, fun s H' ok k2 hh2 => wordW H1 k1 hh1 s H' ok k2 hh2⟩) (fun _ => ?_)
  refine ⟨_, rfl, h, d, ds, 5, rfl, hh1, by decide, fun r2 H2 r2a r2b k2 hh2 => ⟨_, rfl, h, d, ds, 12, rfl, hh2, by decide, fun r3 H3 r3a r3b k3 hh3 => ⟨by show 2 ≤ sizeLine; decide, fun L nL => ?_⟩⟩⟩
  refine ⟨_, rfl, h, d, ds, 4, rfl, hh3.new nL, by decide, fun r4 H4 r4a r4b k4 hh4 => ⟨_, _, rfl, rfl, ⟨by decide, by decide⟩, ?_⟩⟩
  have eL : H4 L = some (.lst [.int r2, .int r3]) := k4 L _ (hh3.neH nL) upd_same
  obtain ⟨many, ea, hs⟩ := at2 (x := r2) (y := r3) (r := r4 / 3) (by omega) (by omega)
  have kk : Kp (At h) H H4 := ((k1.trans (k2.trans k3)).new nL).trans k4
  have hmany : 0 ≤ many ∧ many ≤ 11 := by omega
  refine ⟨L, _, _, .int many, rfl, rfl, SqL.of eL, ea, ?_⟩
  refine ⟨_, rfl, many, rfl, by omega, by omega, fun D nD => ?_⟩
  refine lc_range (lo := 0) (n := many.toNat) (fun i H' => ∃ (ts : List Tr) (vs : List V), Kp (At h) H H' ∧ Hnd H' h d ds ∧ H' D = some (.lst vs) ∧ IsTs K H' ts vs ∧ ts.length = i ∧ ∀ t ∈ ts, TOk t ∧ t.depth ≤ m - 1 ∧ t.size ≤ bd (m - 1))
    ⟨[], [], kk.new nD, hh4.new nD, upd_same, IsTs.nil, rfl, fun _ h => absurd h List.not_mem_nil⟩ (fun i H5 hi hP => ?_) (fun H5 hP => ?_)
  · obtain ⟨ts, vs, k5, hh5, eD, hts, lt, hall⟩ := hP
    have nDh : D ≠ h := hh4.neH nD
    have nDd : D ≠ d := hh4.neD nD
    have nDH : H D = none := (Kp.fresh kk (fun z => nDh z) nD)
    refine ⟨rfl, _, rfl, _, rfl, _, _, rfl, rfl, h, d, ds, m - 1, ?_, by omega, hh5, fun t v H6 ok dp szv hv k6 hh6 => ?_⟩
    · have e1 : (m : Int) - 1 = ((m - 1 : Nat) : Int) := by omega
      show [V.ref h, V.int ((m : Int) - 1)] ++ [] = _
      rw [e1]; rfl
    · have eD6 : H6 D = some (.lst vs) := k6 D _ nDh eD
      have tk6 := hh5.tk (K := K) k6
      have lv := hts.length
      refine ⟨vs, eD6, szl (by omega), ts ++ [t], vs ++ [v], (k5.trans k6).put (.inr nDH), hh6.put nDh nDd, upd_same, ?_, by simp [lt], fun u hu => ?_⟩
      · have tk7 : TK K H6 (upd H6 D (.lst (vs ++ [v]))) := TK.put (mut_lst eD6)
        exact ((hts.tk tk6).tk tk7).snoc (hv.tk tk7)
      · rcases List.mem_append.mp hu with z | z
        · exact hall u z
        · rw [List.mem_singleton.mp z]; exact ⟨ok, dp, szv⟩
  · obtain ⟨ts, vs, k5, hh5, eD, hts, lt, hall⟩ := hP
    have nDh : D ≠ h := hh4.neH nD
    refine ⟨D, vs, rfl, .inl ⟨SqL.of eD, fun l nl => ?_⟩⟩
    have tkl : TK K H5 (upd H5 l (.tup vs)) := TK.new nl
    obtain ⟨m', rfl⟩ : ∃ m', m = m' + 1 := ⟨m - 1, by omega⟩
    rw [Nat.add_sub_cancel] at hall
    refine q (.l ts) _ _ ?_ ?_ ?_ (IsT.tup (SqT.of upd_same) (hts.tk tkl)) (k5.new nl) (hh5.new nl)
    · simp only [TOk]; exact toks_of fun t ht => (hall t ht).1
    · have := Tr.depths_le (ts := ts) (n := m') fun t ht => (hall t ht).2.1
      simp only [Tr.depth]; omega
    · have h1 := Tr.sizes_le (ts := ts) (n := bd m') fun t ht => (hall t ht).2.2
      have h2 : ts.length * bd m' ≤ 11 * bd m' := Nat.mul_le_mul_right _ (by omega)
      simp only [Tr.size, bd]; omega

/-! ### _law_like -/
def psz (ps : List (Tr × Tr)) : Nat := Tr.sizes (ps.map (·.2))
theorem psz_append (a b : List (Tr × Tr)) : psz (a ++ b) = psz a + psz b := by simp [psz, Tr.sizes_append]
theorem psz_len (ps : List (Tr × Tr)) : ps.length ≤ psz ps := by
  have := Tr.length_le_sizes (ps.map (·.2))
  rw [List.length_map] at this; exact this
def prel (K : PySem.W.Frag) (H : Hp) (p : Tr × Tr) (v : V) : Prop := ∃ e x y, v = .ref e ∧ SqT K H e [x, y] ∧ IsT K H p.1 x ∧ IsT K H p.2 y
theorem prel_tk {K : PySem.W.Frag} {H H' : Hp} (k : TK K H H') {p : Tr × Tr} {v : V} : prel K H p v → prel K H' p v := fun ⟨e, x, y, h1, h2, h3, h4⟩ => ⟨e, x, y, h1, k _ _ h2, h3.tk k, h4.tk k⟩
def spLike (K : PySem.W.Frag) : Sp := fun vs H Q _ => ∃ (t1 t2 : Tr) (v1 v2 : V), vs = [v1, v2] ∧ IsT K H t1 v1 ∧ IsT K H t2 v2 ∧ t2.size ≤ 399999 ∧ ∀ H', Same H H' → Q (.bl (decide (t1 = t2))) H'
theorem zip_take {α β : Type} : ∀ {as : List α} {bs : List β} {j : Nat} {a : α} {b : β}, as[j]? = some a → bs[j]? = some b → (as.zip bs).take (j + 1) = (as.zip bs).take j ++ [(a, b)]
  | [], _, _, _, _, h, _ => by simp at h
  | _ :: _, [], _, _, _, _, h => by simp at h
  | x :: as, y :: bs, 0, a, b, h1, h2 => by simp at h1 h2; subst h1 h2; simp
  | x :: as, y :: bs, j + 1, a, b, h1, h2 => by
    have ih := zip_take (as := as) (bs := bs) (j := j) (a := a) (b := b) (by simpa using h1) (by simpa using h2)
    simp [List.zip_cons_cons, ih]
theorem zip_all {as bs : List Tr} (h : as.length = bs.length) : (∀ p ∈ as.zip bs, p.1 = p.2) ↔ as = bs := by
  induction as generalizing bs with
  | nil => cases bs with
    | nil => simp
    | cons b bs => simp at h
  | cons a as ih => cases bs with
    | nil => simp at h
    | cons b bs =>
      have ih' := ih (bs := bs) (by simpa using h)
      rw [List.zip_cons_cons]
      constructor
      · intro g
        have h1 := g (a, b) List.mem_cons_self
        have h2 := ih'.mp fun p hp => g p (List.mem_cons_of_mem _ hp)
        simp at h1
        rw [h1, h2]
      · intro g
        injection g with g1 g2
        subst g1 g2
        intro p hp
        rcases List.mem_cons.mp hp with e | e
        · rw [e]
        · exact ih'.mpr rfl p e
theorem psz_zip {as bs : List Tr} (h : as.length = bs.length) : psz (as.zip bs) = Tr.sizes bs := by
  unfold psz
  rw [show (as.zip bs).map (·.2) = bs by
    have := List.map_snd_zip (l₁ := as) (l₂ := bs) (by omega)
    exact this]
theorem psz_take (ps : List (Tr × Tr)) (j : Nat) : psz (ps.take j) ≤ psz ps := by
  conv => rhs; rw [← List.take_append_drop j ps]
  rw [psz_append]; omega
theorem ok_like {P : Program} {w : World} {K : PySem.W.Frag} {mg : Str → Option Value} {base : Heap} (T : Top K mg) {k : Nat} : FnOk P w K mg base CX0 (k + 1) T.a_law_like T.d_law_like ["_law_found", "_law_expected"] (spLike K) := by
  refine T.F_law_like.ok sc_law_like (fun vs H Q E h => ?_) (fun cdv A outer s H vs Q E hr h => ?_)
  · obtain ⟨t1, t2, v1, v2, rfl, _⟩ := h
    rfl
  obtain ⟨t1, t2, v1, v2, rfl, h1, h2, hsz, q⟩ := h
  refine ⟨_, (pss_cons (ps_set (i := 2) sc_law_like.nd rfl (Or.inl rfl) (pe_lst (pa_cons (pe_tup (pa_cons (pv 0) (pa_cons (pv 1) pa_nil))) pa_nil)))
    (pss_cons (ps_for PassesOwn.never rfl (pi_range1 rfl T.n_range (pa_cons pe_int pa_nil)) (pg_name (i := 3) sc_law_like.nd rfl (Or.inl rfl)) (pss_cons (ps_if (pt_cmpR op_eq (pe_callB call_len_seq rfl T.n_len bo_len (pa_cons (pv 2) pa_nil)) pe_int (nomark _)) (pss_one (ps_ret pe_bl)) pss_nil)
    (pss_cons (ps_asg (pe_bm0 PySem.F.plainAttrs_list PySem.F.slot_list_pop PySem.F.type_list_pop mt_pop (pv 2)) (pg_tup (by rfl) (pgs_cons (pg_name (i := 5) sc_law_like.nd rfl (Or.inl rfl)) (pgs_cons (pg_name (i := 6) sc_law_like.nd rfl (Or.inl rfl)) pgs_nil))))
    (pss_cons (ps_if (pt_val (pe_callB call_isi rfl T.n_isinstance bo_isinstance (pa_cons (pv 6) (pa_cons (pe_bltn (v := .ty "str") rfl T.n_str bo_str rfl) pa_nil)))) (pss_cons (ps_if (PW.pt (pw_or (pt_not (pt_val (pe_callB call_isi rfl T.n_isinstance bo_isinstance (pa_cons (pv 5) (pa_cons (pe_bltn (v := .ty "str") rfl T.n_str bo_str rfl) pa_nil))))) (pw_or1 (pt_cmpR op_ne (pv 5) (pv 6) (nomark _))))) (pss_one (ps_ret pe_bl)) pss_nil)
    (pss_one ps_continue)) pss_nil)
    (pss_cons (ps_if (PW.pt (pw_or (pt_not (pt_val (pe_callB call_isi rfl T.n_isinstance bo_isinstance (pa_cons (pv 5) (pa_cons (pe_bltn (v := .ty "tuple") rfl T.n_tuple bo_tuple rfl) pa_nil))))) (pw_or1 (pt_cmpR op_ne (pe_callB call_len_seq rfl T.n_len bo_len (pa_cons (pv 5) pa_nil)) (pe_callB call_len_seq rfl T.n_len bo_len (pa_cons (pv 6) pa_nil)) (nomark _))))) (pss_one (ps_ret pe_bl)) pss_nil)
    (pss_one (ps_for PassesOwn.never rfl (pi_range1 rfl T.n_range (pa_cons (pe_callB call_len_seq rfl T.n_len bo_len (pa_cons (pv 6) pa_nil)) pa_nil)) (pg_name (i := 4) sc_law_like.nd rfl (Or.inl rfl)) (pss_one (ps_expr (pe_bm PySem.F.plainAttrs_list PySem.F.slot_list_append PySem.F.type_list_append mt_append (pv 2) (pa_cons (pe_tup (pa_cons (pe_ix ix_tup (pv 5) (pv 4) (fun _ _ => rfl)) (pa_cons (pe_ix ix_tup (pv 6) (pv 4) (fun _ _ => rfl)) pa_nil))) pa_nil)))))))))))
    (pss_one (ps_ret pe_bl)))), ?_⟩
  refine ⟨_, rfl, _, rfl, by show 2 ≤ sizeLine; decide, fun e0 ne0 => ⟨by show 1 ≤ sizeLine; decide, fun L nL => ?_⟩⟩
  have k0 : Same H (upd (upd H e0 (.tup [v1, v2])) L (.lst [.ref e0])) := (same_new ne0).trans (same_new nL)
  have hL : H L = none := (same_new (H := H) ne0 (o := .tup [v1, v2])).free nL
  have he0 : (upd (upd H e0 (.tup [v1, v2])) L (.lst [.ref e0])) e0 = some (.tup [v1, v2]) := by rw [upd_ne (ne_of_none upd_same nL), upd_same]
  refine ⟨400000, rfl, by decide, by decide, ?_⟩
  refine for_range (lo := 0) (n := (400000 : Int).toNat) (fun i σ H' => ∃ (ps : List (Tr × Tr)) (vs : List V) (y3 y4 y5 y6 : Option V), σ = [some v1, some v2, some (.ref L), y3, y4, y5, y6] ∧ Same H H' ∧ H' L = some (.lst vs) ∧ Paired (prel K H') ps vs ∧
    (t1 = t2 ↔ ∀ p ∈ ps, p.1 = p.2) ∧ i + psz ps ≤ t2.size)
    ⟨[(t1, t2)], [.ref e0], _, _, _, _, rfl, k0, upd_same, .cons ⟨e0, v1, v2, rfl, SqT.of he0, h1.tk (TK.same k0), h2.tk (TK.same k0)⟩ .nil, by simp, by simp [psz, Tr.sizes]⟩ (fun i σ H1 hi hP => ?_) (fun σ H1 hP => ?_)
  · obtain ⟨ps, vs, y3, y4, y5, y6, rfl, s1, eL, pr, hiff, hb⟩ := hP
    have lp := paired_len pr
    have lpz := psz_len ps
    refine ⟨_, rfl, L, _, rfl, .inl (SqL.of eL), rfl, _, rfl, ?_⟩
    by_cases hvs : vs.length = 0
    · rw [decide_eq_true (show V.int ((vs.length : Nat) : Int) = V.int 0 by rw [hvs]; rfl)]
      have eps : ps = [] := List.eq_nil_of_length_eq_zero (by rw [lp, hvs])
      subst eps
      have e : t1 = t2 := hiff.mpr fun p hp => absurd hp List.not_mem_nil
      have q' := q H1 s1
      rw [decide_eq_true e] at q'
      exact q'
    rw [decide_eq_false (show ¬ V.int ((vs.length : Nat) : Int) = V.int 0 by intro e; injection e with e; omega)]
    obtain ⟨ps', pl, vs', vl, rfl, rfl, pr', e, x, y, rfl, hel, hx, hy⟩ := paired_last pr (by omega)
    refine ⟨_, rfl, .inl ⟨rfl, _, SqL.of eL⟩, L, _, .ref e, rfl, rfl, eL, last_of _ _, ?_⟩
    rw [List.dropLast_concat]
    have t1k : TK K H1 (upd H1 L (.lst vs')) := TK.put (mut_lst eL)
    have s2 : Same H (upd H1 L (.lst vs')) := fun b o e => by rw [upd_ne (ne_of_none e hL)]; exact s1 b o e
    have eL2 : (upd H1 L (.lst vs')) L = some (.lst vs') := upd_same
    have pr2 := paired_mono (fun _ _ => prel_tk t1k) pr'
    have hel2 := t1k _ _ hel
    have hx2 := hx.tk t1k
    have hy2 := hy.tk t1k
    generalize (upd H1 L (.lst vs')) = H2 at s2 eL2 pr2 hel2 hx2 hy2 ⊢
    refine ⟨e, _, rfl, hel2, rfl, _, _, rfl, _, _, rfl, rfl, ?_⟩
    have no : pl.1 ≠ pl.2 → Q (.bl false) H2 := fun ne => by
      have e : ¬ t1 = t2 := fun g => ne (hiff.mp g pl (by simp))
      have q' := q H2 s2
      rw [decide_eq_false e] at q'
      exact q'
    rw [psz_append] at hb
    obtain ⟨a, b⟩ := pl
    cases b with
    | w s2' =>
      obtain rfl := isT_w.mp hy2
      refine ⟨_, rfl, _, _, _, _, true, rfl, .ty "str", tyX_str, kty k_ss, true, rfl, ?_⟩
      cases a with
      | l as =>
        obtain ⟨xa, xs, rfl, hxs, _⟩ := isT_l.mp hx2
        refine ⟨_, rfl, _, _, _, _, false, rfl, .ty "str", tyX_tup hxs, kty k_ts, false, rfl, ?_⟩
        exact no (fun g => by cases g)
      | w s1' =>
        obtain rfl := isT_w.mp hx2
        refine ⟨_, rfl, _, _, _, _, true, rfl, .ty "str", tyX_str, kty k_ss, true, rfl, ?_⟩
        refine ⟨_, rfl, _, rfl, rfl, _, rfl, ?_⟩
        by_cases es : s1' = s2'
        · subst es
          rw [decide_eq_true rfl]
          refine ⟨ps', vs', _, _, _, _, rfl, s2, eL2, pr2, ?_, ?_⟩
          · rw [hiff]
            constructor
            · intro g p hp; exact g p (List.mem_append_left _ hp)
            · intro g p hp
              rcases List.mem_append.mp hp with z | z
              · exact g p z
              · rw [List.mem_singleton.mp z]
          · have : psz [(Tr.w s1', Tr.w s1')] = 1 := rfl
            omega
        · rw [decide_eq_false (show ¬ V.str s1' = V.str s2' by intro g; injection g with g; exact es g)]
          exact no (fun g => by injection g with g; exact es g)
    | l bs =>
      obtain ⟨ya, ys, rfl, hys, hbs⟩ := isT_l.mp hy2
      refine ⟨_, rfl, _, _, _, _, false, rfl, .ty "str", tyX_tup hys, kty k_ts, false, rfl, ?_⟩
      cases a with
      | w s1' =>
        obtain rfl := isT_w.mp hx2
        refine ⟨_, rfl, _, _, _, _, false, rfl, .ty "tuple", tyX_str, kty k_st, false, rfl, ?_⟩
        exact no (fun g => by cases g)
      | l as =>
        obtain ⟨xa, xs, rfl, hxs, has⟩ := isT_l.mp hx2
        refine ⟨_, rfl, _, _, _, _, true, rfl, .ty "tuple", tyX_tup hxs, kty k_tt, true, rfl, ?_⟩
        refine ⟨_, rfl, xa, xs, rfl, .inr hxs, _, rfl, ya, ys, rfl, .inr hys, rfl, _, rfl, ?_⟩
        have la := has.length
        have lb := hbs.length
        by_cases el : as.length = bs.length
        · rw [decide_eq_true (show V.int ((xs.length : Nat) : Int) = V.int ((ys.length : Nat) : Int) by rw [la, lb, el])]
          have esz : psz [(Tr.l as, Tr.l bs)] = Tr.sizes bs + 1 := rfl
          rw [esz] at hb
          refine ⟨_, rfl, ya, ys, rfl, .inr hys, _, rfl, by omega, ?_, ?_⟩
          · have := Tr.length_le_sizes bs; omega
          have ey : (((ys.length : Nat) : Int)).toNat = ys.length := by omega
          rw [ey]
          refine for_range (lo := 0) (n := ys.length) (fun j σ H' => ∃ (vs : List V) (y4 : Option V), σ = [some v1, some v2, some (.ref L), some (.int (0 + (i : Int))), y4, some (.ref xa), some (.ref ya)] ∧ Same H H' ∧ TK K H2 H' ∧ H' L = some (.lst vs) ∧ Paired (prel K H') (ps' ++ (as.zip bs).take j) vs)
            ⟨vs', _, rfl, s2, TK.refl, eL2, by simpa using pr2⟩ (fun j σ H3 hj hP => ?_) (fun σ H3 hP => ?_)
          · obtain ⟨vs3, y4, rfl, s3, t3, eL3, pr3⟩ := hP
            have hja : j < as.length := by omega
            have hjb : j < bs.length := by omega
            obtain ⟨u, gu, hu⟩ := (has.tk t3).get (List.getElem?_eq_getElem hja)
            obtain ⟨u', gu', hu'⟩ := (hbs.tk t3).get (List.getElem?_eq_getElem hjb)
            have ej : (0 : Int) + (j : Int) = (j : Int) := by omega
            have l3 : vs3.length ≤ 400000 := by
              rw [← paired_len pr3]
              have a1 := psz_len (ps' ++ (as.zip bs).take j)
              have a2 := psz_take (as.zip bs) j
              rw [psz_append] at a1
              rw [psz_zip el] at a2
              omega
            rw [ej]
            refine ⟨_, rfl, .inl ⟨rfl, _, SqL.of eL3⟩, _, rfl, _, rfl, xa, xs, (j : Int), u, rfl, rfl, t3 _ _ hxs, atI_nat gu, _, rfl, _, rfl, ya, ys, (j : Int), u', rfl, rfl, t3 _ _ hys, atI_nat gu', by show 2 ≤ sizeLine; decide, fun e3 ne3 => ?_⟩
            have eL4 : (upd H3 e3 (.tup [u, u'])) L = some (.lst vs3) := by rw [upd_ne (ne_of_none eL3 ne3)]; exact eL3
            refine ⟨L, _, _, rfl, rfl, eL4, szl (by omega), ?_⟩
            have t4 : TK K H3 (upd (upd H3 e3 (.tup [u, u'])) L (.lst (vs3 ++ [.ref e3]))) := (TK.new ne3).trans (TK.put (mut_lst eL4))
            have he3 : (upd (upd H3 e3 (.tup [u, u'])) L (.lst (vs3 ++ [.ref e3]))) e3 = some (.tup [u, u']) := by rw [upd_ne (ne_of_none eL3 ne3).symm, upd_same]
            refine ⟨_, _, rfl, fun b o e => by rw [upd_ne (ne_of_none e hL)]; exact (s3.trans (same_new ne3)) b o e, t3.trans t4, upd_same, ?_⟩
            rw [zip_take (List.getElem?_eq_getElem hja) (List.getElem?_eq_getElem hjb), ← List.append_assoc]
            exact paired_snoc (paired_mono (fun _ _ => prel_tk t4) pr3) ⟨e3, u, u', rfl, SqT.of he3, hu.tk t4, hu'.tk t4⟩
          · obtain ⟨vs3, y4, rfl, s3, t3, eL3, pr3⟩ := hP
            have full : (as.zip bs).take ys.length = as.zip bs := List.take_of_length_le (by rw [List.length_zip]; omega)
            rw [full] at pr3
            refine ⟨_, vs3, _, _, _, _, rfl, s3, eL3, pr3, ?_, ?_⟩
            · rw [hiff]
              constructor
              · intro g p hp
                rcases List.mem_append.mp hp with z | z
                · exact g p (List.mem_append_left _ z)
                · have := g (.l as, .l bs) (by simp)
                  simp at this
                  exact (zip_all el).mpr this p z
              · intro g p hp
                rcases List.mem_append.mp hp with z | z
                · exact g p (List.mem_append_left _ z)
                · rw [List.mem_singleton.mp z]
                  have := (zip_all el).mp fun p hp => g p (List.mem_append_right _ hp)
                  rw [this]
            · rw [psz_append, psz_zip el]; omega
        · rw [decide_eq_false (show ¬ V.int ((xs.length : Nat) : Int) = V.int ((ys.length : Nat) : Int) by rw [la, lb]; intro g; injection g with g; omega)]
          exact no (fun g => by injection g with g; exact el (by rw [g]))
  · obtain ⟨ps, vs, y3, y4, y5, y6, rfl, s1, eL, pr, hiff, hb⟩ := hP
    exfalso
    have : (400000 : Int).toNat = 400000 := rfl
    omega

/-! ### same_values -/
theorem aln_sw : ∀ c ∈ (lowS ++ figS).cps.toList, c < 0x110000 := by decide +kernel
theorem wok_sw {s : Str} (h : WOk s) : sw s = true := by
  obtain ⟨c, r, e, hc, hr, _⟩ := h
  show s.cps.all (· < 0x110000) = true
  rw [← Array.all_toList, List.all_eq_true]
  intro x hx
  rw [e] at hx
  have : alnum x = true := by
    rcases List.mem_cons.mp hx with z | z
    · rw [z]; exact low_alnum hc
    · exact hr x z
  exact decide_eq_true (aln_sw x (of_decide_eq_true this))
def spSame (K : PySem.W.Frag) : Sp := fun vs H Q _ => ∃ (t1 t2 : Tr) (v1 v2 : V), vs = [v1, v2] ∧ IsT K H t1 v1 ∧ IsT K H t2 v2 ∧ t1.sok = true ∧ t2.sok = true ∧ t2.size ≤ 399999 ∧ ∀ H', Same H H' → Q (.bl (decide (t1 = t2))) H'
def anyW : Tr → Tr → Bool
  | .l _, .l _ => false
  | .w _, _ => true
  | .l _, .w _ => true
def pok (p : Tr × Tr) : Prop := p.1.sok = true ∧ p.2.sok = true
theorem zipped {K : PySem.W.Frag} {H H' : Hp} (k : TK K H H') : ∀ {as bs : List Tr} {us vs : List V} {ts : List Addr}, IsTs K H as us → IsTs K H bs vs → Paired (fun (t : Addr) (e : V × V) => H' t = some (.tup [e.1, e.2])) ts (us.zip vs) → Paired (prel K H') (as.zip bs) (ts.map V.ref)
  | [], _, us, vs, ts, h1, _, h => by
    rw [isTs_nil.mp h1] at h
    cases h; exact .nil
  | _ :: _, [], us, vs, ts, _, h2, h => by
    rw [isTs_nil.mp h2, List.zip_nil_right] at h
    cases h; exact .nil
  | a :: as, b :: bs, us, vs, ts, h1, h2, h => by
    obtain ⟨u, us', rfl, u1, u2⟩ := isTs_cons.mp h1
    obtain ⟨v, vs', rfl, v1, v2⟩ := isTs_cons.mp h2
    rw [List.zip_cons_cons] at h
    cases h with
    | cons f t => exact .cons ⟨_, u, v, rfl, SqT.of f, u1.tk k, v1.tk k⟩ (zipped k u2 v2 t)
theorem ok_same {P : Program} {w : World} {K : PySem.W.Frag} {mg : Str → Option Value} {base : Heap} (T : Top K mg) {k : Nat} : FnOk P w K mg base CX0 (k + 1) T.a_same_values T.d_same_values ["first", "second"] (spSame K) := by
  refine T.F_same_values.ok sc_same_values (fun vs H Q E h => ?_) (fun cdv A outer s H vs Q E hr h => ?_)
  · obtain ⟨t1, t2, v1, v2, rfl, _⟩ := h
    rfl
  obtain ⟨t1, t2, v1, v2, rfl, h1, h2, o1, o2, hsz, q⟩ := h
  refine ⟨_, (pss_cons (ps_set (i := 2) sc_same_values.nd rfl (Or.inl rfl) (pe_lst (pa_cons (pe_tup (pa_cons (pv 0) (pa_cons (pv 1) pa_nil))) pa_nil)))
    (pss_cons (ps_while PassesOwn.never (pt_cmpR op_gt (pe_callB call_len_seq rfl T.n_len bo_len (pa_cons (pv 2) pa_nil)) pe_int (nomark _)) (pss_cons (ps_asg (pe_bm0 PySem.F.plainAttrs_list PySem.F.slot_list_pop PySem.F.type_list_pop mt_pop (pv 2)) (pg_tup (by rfl) (pgs_cons (pg_name (i := 3) sc_same_values.nd rfl (Or.inl rfl)) (pgs_cons (pg_name (i := 4) sc_same_values.nd rfl (Or.inl rfl)) pgs_nil))))
    (pss_one (ps_if (PW.pt (pw_or (pt_val (pe_callB call_isi rfl T.n_isinstance bo_isinstance (pa_cons (pv 3) (pa_cons (pe_bltn (v := .ty "str") rfl T.n_str bo_str rfl) pa_nil)))) (pw_or1 (pt_val (pe_callB call_isi rfl T.n_isinstance bo_isinstance (pa_cons (pv 4) (pa_cons (pe_bltn (v := .ty "str") rfl T.n_str bo_str rfl) pa_nil))))))) (pss_one (ps_if (pt_cmpR (op_neT (un2 hr)) (pv 3) (pv 4) (nomark _)) (pss_one (ps_ret pe_bl)) pss_nil)) (pss_one (ps_if (pt_cmpR op_ne (pe_callB call_len_seq rfl T.n_len bo_len (pa_cons (pv 3) pa_nil)) (pe_callB call_len_seq rfl T.n_len bo_len (pa_cons (pv 4) pa_nil)) (nomark _)) (pss_one (ps_ret pe_bl)) (pss_one (ps_expr (pe_bm PySem.F.plainAttrs_list PySem.F.slot_list_extend PySem.F.type_list_extend mt_extend (pv 2) (pa_cons (ZL.pe_listZip rfl (pa_cons (pv 3) (pa_cons (pv 4) pa_nil)) rfl T.n_list bo_list rfl T.n_zip) pa_nil))))))))))
    (pss_one (ps_ret pe_bl)))), ?_⟩
  refine ⟨_, rfl, _, rfl, by show 2 ≤ sizeLine; decide, fun e0 ne0 => ⟨by show 1 ≤ sizeLine; decide, fun L nL => ?_⟩⟩
  have k0 : Same H (upd (upd H e0 (.tup [v1, v2])) L (.lst [.ref e0])) := (same_new ne0).trans (same_new nL)
  have hL : H L = none := (same_new (H := H) ne0 (o := .tup [v1, v2])).free nL
  have he0 : (upd (upd H e0 (.tup [v1, v2])) L (.lst [.ref e0])) e0 = some (.tup [v1, v2]) := by rw [upd_ne (ne_of_none upd_same nL), upd_same]
  refine ⟨fun m σ H' => ∃ (ps : List (Tr × Tr)) (vs : List V) (y3 y4 : Option V), σ = [some v1, some v2, some (.ref L), y3, y4] ∧ Same H H' ∧ H' L = some (.lst vs) ∧ Paired (prel K H') ps vs ∧
    (t1 = t2 ↔ ∀ p ∈ ps, p.1 = p.2) ∧ m = psz ps ∧ psz ps ≤ t2.size ∧ ∀ p ∈ ps, pok p, ?_, ?_⟩
  · exact ⟨_, [(t1, t2)], [.ref e0], _, _, rfl, k0, upd_same, .cons ⟨e0, v1, v2, rfl, SqT.of he0, h1.tk (TK.same k0), h2.tk (TK.same k0)⟩ .nil, by simp, rfl, by simp [psz, Tr.sizes], by simp [pok, o1, o2]⟩
  rintro m σ H1 ⟨ps, vs, y3, y4, rfl, s1, eL, pr, hiff, rfl, hb, hok⟩
  have lp := paired_len pr
  have lpz := psz_len ps
  refine ⟨_, rfl, L, vs, rfl, .inl (SqL.of eL), _, _, rfl, rfl, _, rfl, ?_⟩
  refine ite2 (fun c => ?_) (fun c => ?_)
  · have c' := of_decide_eq_true c
    obtain ⟨ps', pl, vs', vl, rfl, rfl, pr', e, x, y, rfl, hel, hx, hy⟩ := paired_last pr (by omega)
    refine ⟨fun σ' H' => ∃ (ps : List (Tr × Tr)) (vs : List V) (y3 y4 : Option V), σ' = [some v1, some v2, some (.ref L), y3, y4] ∧ Same H H' ∧ H' L = some (.lst vs) ∧ Paired (prel K H') ps vs ∧
      (t1 = t2 ↔ ∀ p ∈ ps, p.1 = p.2) ∧ psz ps < psz (ps' ++ [pl]) ∧ ∀ p ∈ ps, pok p, ?_, ?_⟩
    · rintro σ' H' ⟨ps2, vs2, z3, z4, rfl, a1, a2, a3, a4, a5, a6⟩
      exact ⟨_, a5, ps2, vs2, z3, z4, rfl, a1, a2, a3, a4, rfl, by omega, a6⟩
    refine ⟨_, rfl, .inl ⟨rfl, _, SqL.of eL⟩, L, _, .ref e, rfl, rfl, eL, last_of _ _, ?_⟩
    rw [List.dropLast_concat]
    have tk1 : TK K H1 (upd H1 L (.lst vs')) := TK.put (mut_lst eL)
    have s2 : Same H (upd H1 L (.lst vs')) := fun b o e => by rw [upd_ne (ne_of_none e hL)]; exact s1 b o e
    have eL2 : (upd H1 L (.lst vs')) L = some (.lst vs') := upd_same
    have pr2 := paired_mono (fun _ _ => prel_tk tk1) pr'
    have hel2 := tk1 _ _ hel
    have hx2 := hx.tk tk1
    have hy2 := hy.tk tk1
    generalize (upd H1 L (.lst vs')) = H2 at s2 eL2 pr2 hel2 hx2 hy2 ⊢
    refine ⟨e, _, rfl, hel2, rfl, _, _, rfl, _, _, rfl, rfl, ?_⟩
    have no : pl.1 ≠ pl.2 → ∀ H', Same H2 H' → Q (.bl false) H' := fun ne H' sm => by
      have e : ¬ t1 = t2 := fun g => ne (hiff.mp g pl (by simp))
      have q' := q H' (s2.trans sm)
      rw [decide_eq_false e] at q'
      exact q'
    have hb2 : psz (ps' ++ [pl]) = psz ps' + psz [pl] := psz_append _ _
    have hokp := hok pl (by simp)
    have hok' : ∀ p ∈ ps', pok p := fun p hp => hok p (by simp [hp])
    obtain ⟨a, b⟩ := pl
    dsimp only
    refine if_b (anyW a b) (fun Qb qb => ?_) (fun cb => ?_) (fun cb => ?_)
    · cases a with
      | w s1' =>
        obtain rfl := isT_w.mp hx2
        refine ⟨_, rfl, _, _, _, _, true, rfl, .ty "str", tyX_str, kty k_ss, true, rfl, ?_⟩
        cases b <;> exact qb
      | l as =>
        obtain ⟨xa, xs, rfl, hxs, _⟩ := isT_l.mp hx2
        refine ⟨_, rfl, _, _, _, _, false, rfl, .ty "str", tyX_tup hxs, kty k_ts, false, rfl, ?_⟩
        cases b with
        | w s2' =>
          obtain rfl := isT_w.mp hy2
          exact ⟨_, rfl, _, _, _, _, true, rfl, .ty "str", tyX_str, kty k_ss, true, rfl, qb⟩
        | l bs =>
          obtain ⟨ya, ys, rfl, hys, _⟩ := isT_l.mp hy2
          exact ⟨_, rfl, _, _, _, _, false, rfl, .ty "str", tyX_tup hys, kty k_ts, false, rfl, qb⟩
    · have hd : min a.depth b.depth ≤ 200 := by
        cases a with
        | w _ => simp [Tr.depth]
        | l _ => cases b with
          | w _ => simp [Tr.depth]
          | l _ => cases cb
      refine ⟨_, rfl, _, rfl, a, b, hx2, hy2, hokp.1, hokp.2, hd, _, rfl, ?_⟩
      by_cases es : a = b
      · rw [decide_eq_true es]
        refine ⟨ps', vs', _, _, rfl, s2, eL2, pr2, ?_, ?_, hok'⟩
        · rw [hiff]
          constructor
          · intro g p hp; exact g p (List.mem_append_left _ hp)
          · intro g p hp
            rcases List.mem_append.mp hp with z | z
            · exact g p z
            · rw [List.mem_singleton.mp z]; exact es
        · rw [hb2]
          have : 0 < psz [(a, b)] := by show 0 < b.size + 0; have := Tr.size_pos b; omega
          omega
      · rw [decide_eq_false es]
        exact no es H2 (fun _ _ h => h)
    · cases a with
      | w _ => cases b <;> cases cb
      | l as => cases b with
        | w _ => cases cb
        | l bs =>
          obtain ⟨xa, xs, rfl, hxs, has⟩ := isT_l.mp hx2
          obtain ⟨ya, ys, rfl, hys, hbs⟩ := isT_l.mp hy2
          have la := has.length
          have lb := hbs.length
          refine ⟨_, rfl, xa, xs, rfl, .inr hxs, _, rfl, ya, ys, rfl, .inr hys, rfl, _, rfl, ?_⟩
          by_cases el : as.length = bs.length
          · rw [decide_eq_true (show V.int ((xs.length : Nat) : Int) = V.int ((ys.length : Nat) : Int) by rw [la, lb, el])]
            refine ⟨_, rfl, .inl ⟨rfl, _, SqL.of eL2⟩, _, rfl, _, rfl, xa, ya, xs, ys, rfl, hxs, hys, fun H3 p ts s3 np nts pts ep prs => ?_⟩
            have zz := zipped (TK.same (K := K) s3) has hbs prs
            have lz := paired_len zz
            have esz : psz [(Tr.l as, Tr.l bs)] = Tr.sizes bs + 1 := rfl
            have lzz := psz_len (as.zip bs)
            rw [psz_zip el] at lzz
            have lp' := paired_len pr2
            have lps := psz_len ps'
            have eL3 := s3 _ _ eL2
            have nLp : L ≠ p := ne_of_none eL2 np
            refine ⟨L, p, vs', _, rfl, rfl, eL3, ep, OG.sz (by omega), ?_⟩
            have tk4 : TK K H3 (upd H3 L (.lst (vs' ++ ts.map V.ref))) := TK.put (mut_lst eL3)
            refine ⟨ps' ++ as.zip bs, _, _, _, rfl, fun b o e => by rw [upd_ne (ne_of_none e hL)]; exact (s2.trans s3) b o e, upd_same, paired_app (paired_mono (fun _ _ => prel_tk ((TK.same s3).trans tk4)) pr2) (paired_mono (fun _ _ => prel_tk tk4) zz), ?_, ?_, ?_⟩
            · rw [hiff]
              constructor
              · intro g p hp
                rcases List.mem_append.mp hp with z | z
                · exact g p (List.mem_append_left _ z)
                · have := g (.l as, .l bs) (by simp)
                  simp at this
                  exact (zip_all el).mpr this p z
              · intro g p hp
                rcases List.mem_append.mp hp with z | z
                · exact g p (List.mem_append_left _ z)
                · rw [List.mem_singleton.mp z]
                  have := (zip_all el).mp fun p hp => g p (List.mem_append_right _ hp)
                  rw [this]
            · rw [hb2, psz_append, psz_zip el]; omega
            · intro p hp
              rcases List.mem_append.mp hp with z | z
              · exact hok' p z
              · obtain ⟨z1, z2⟩ := List.of_mem_zip (a := p.1) (b := p.2) z
                exact ⟨Tr.sok_l.mp hokp.1 _ z1, Tr.sok_l.mp hokp.2 _ z2⟩
          · rw [decide_eq_false (show ¬ V.int ((xs.length : Nat) : Int) = V.int ((ys.length : Nat) : Int) by rw [la, lb]; intro g; injection g with g; omega)]
            exact no (fun g => by injection g with g; exact el (by rw [g])) H2 (fun _ _ h => h)
  · have c' : ¬ (0 : Int) < ((vs.length : Nat) : Int) := fun z => c (decide_eq_true z)
    have e0 : ps = [] := List.eq_nil_of_length_eq_zero (by omega)
    subst e0
    have e : t1 = t2 := hiff.mpr fun p hp => absurd hp List.not_mem_nil
    have q' := q H1 s1
    rw [decide_eq_true e] at q'
    exact q'

/-! ### _law_again, _law_bent -/
theorem wok_len {s : Str} (h : WOk s) : s.length ≤ 12 := by
  obtain ⟨c, r, e, _, _, h12⟩ := h
  rw [← slen, e, List.length_cons]; exact h12
theorem cut_take {z : Str} {n : Nat} : (cutS z none (some (n : Int))).cps.toList = z.cps.toList.take n := by
  unfold cutS
  rw [HT.sIx_nat, HT.sIx_none, Nat.sub_zero, List.drop_zero]
  show z.cps.toList.take _ = _
  have : z.length = z.cps.toList.length := (slen z).symm
  rw [this, List.take_eq_take_iff]; omega
theorem cut_drop {z : Str} {n : Nat} : (cutS z (some (n : Int)) none).cps.toList = z.cps.toList.drop n := by
  unfold cutS
  rw [HT.sIx_nat, HT.sIx_none]
  show (z.cps.toList.drop (min n z.length)).take _ = _
  have e : z.length = z.cps.toList.length := (slen z).symm
  rw [List.take_of_length_le (by rw [List.length_drop]; omega)]
  by_cases h : n ≤ z.length
  · rw [Nat.min_eq_left h]
  · rw [List.drop_of_length_le (by omega), List.drop_of_length_le (by omega)]
theorem cut_init {z : Str} : (cutS z none (some (-1))).cps.toList = z.cps.toList.take (z.length - 1) := by
  unfold cutS
  have : HT.sIx z.length z.length (some (-1)) = z.length - 1 := by
    unfold HT.sIx
    simp only
    rw [if_pos (by decide)]; omega
  rw [this, HT.sIx_none, Nat.sub_zero, List.drop_zero]
def spAgain (K : PySem.W.Frag) (n : Nat) : Sp := fun vs H Q _ => ∃ (t : Tr) (v : V), vs = [v] ∧ IsT K H t v ∧ TOk t ∧ t.depth < n ∧ t.size ≤ 100000 ∧ ∀ (v' : V) (H' : Hp), Same H H' → IsT K H' t v' → Q v' H'
theorem ok_again {P : Program} {w : World} {K : PySem.W.Frag} {mg : Str → Option Value} {base : Heap} (T : Top K mg) :
    ∀ n : Nat, FnOk P w K mg base CX0 (n + 1) T.a_law_again T.d_law_again ["_law_value_here"] (spAgain K n) := by
  intro n
  induction n with
  | zero => exact noSp fun vs H Q E h => by obtain ⟨_, _, _, _, _, hm, _⟩ := h; exact Nat.not_lt_zero _ hm
  | succ n G_law_again =>
  refine T.F_law_again.ok sc_law_again (fun vs H Q E h => ?_) (fun cdv A outer s H vs Q E hr h => ?_)
  · obtain ⟨t, v, rfl, _⟩ := h
    rfl
  obtain ⟨t, v, rfl, hv, ok, hd, hsz, q⟩ := h
  refine ⟨_, (pss_cons (ps_if (pt_val (pe_callB call_isi rfl T.n_isinstance bo_isinstance (pa_cons (pv 0) (pa_cons (pe_bltn (v := .ty "str") rfl T.n_str bo_str rfl) pa_nil)))) (pss_one (ps_ret (pe_op op_add_str (pe_slice sl_str (pv 0) po_none (po_some pe_int)) (pe_slice sl_str (pv 0) (po_some pe_int) po_none)))) pss_nil)
    (pss_one (ps_ret (pe_callTy call_tuple_of rfl T.n_tuple bo_tuple (pa_cons (pe_lc (own := [("_law_one", 1)]) (g := gName 1) (tt := tYes) (by rfl) sc_law_again.nd (pi_tup (pv 0)) (blkOk_by (N := ["_law_value_here", "_law_one"]) (sc := defScope s_law_again) (by decide +kernel)) (fun _ _ _ _ _ => pg_name (i := 1) sc_law_again.nd rfl (Or.inl rfl)) (fun _ _ _ _ _ => pts_nil) (fun _ _ _ _ _ => (pe_call G_law_again (hr.mono (by omega)) rfl T.m_law_again T.F_law_again.kp T.b_law_again .nil pass0 (pa_cons (pv 1) pa_nil)))) pa_nil))))), ?_⟩
  cases t with
  | w s =>
    obtain rfl := isT_w.mp hv
    simp only [TOk] at ok
    have l12 := wok_len ok
    refine ⟨_, rfl, _, _, _, _, true, rfl, .ty "str", tyX_str, kty k_ss, true, rfl, _, rfl, _, rfl, s, rfl, sz (by omega), _, rfl, _, rfl, s, rfl, sz (by omega), ?_⟩
    have e : cutS s none (some 1) ++ cutS s (some 1) none = s := by
      refine str_ext ?_
      rw [app_cps]
      have h1 := cut_take (z := s) (n := 1)
      have h2 := cut_drop (z := s) (n := 1)
      rw [show ((1 : Nat) : Int) = 1 from rfl] at h1 h2
      rw [h1, h2, List.take_append_drop]
    have lc : (cutS s none (some 1)).length + (cutS s (some 1) none).length = s.length := by
      have := congrArg (fun x : Str => x.cps.toList.length) e
      simp only [app_cps, List.length_append, slen] at this
      exact this
    refine ⟨_, _, rfl, rfl, sz (by omega), ?_⟩
    rw [e]
    exact q _ _ (Same.refl H) IsT.str
  | l ts =>
    obtain ⟨a, us, rfl, ha, hus⟩ := isT_l.mp hv
    refine ⟨_, rfl, _, _, _, _, false, rfl, .ty "str", tyX_tup ha, kty k_ts, false, rfl, ?_⟩
    have hl := hus.length
    simp only [TOk] at ok
    simp only [Tr.depth] at hd
    simp only [Tr.size] at hsz
    have hlt := Tr.length_le_sizes ts
    refine ⟨_, rfl, a, rfl, ⟨_, ha⟩, fun D nD => ?_⟩
    refine lc_tup (K := K) (a := a) (xs := us) (fun i H' => ∃ ys : List V, Same H H' ∧ H' D = some (.lst ys) ∧ IsTs K H' (ts.take i) ys)
      ⟨[], same_new nD, upd_same, IsTs.nil⟩ (fun i H' _ h => let ⟨_, s1, _⟩ := h; TK.same s1 _ _ ha) (fun i x H1 hx h => ?_) (fun H1 h => ?_)
    · obtain ⟨ys, s1, eD, iy⟩ := h
      obtain ⟨t, gt, ht⟩ := hus.tree hx
      have tm : t ∈ ts := List.mem_of_getElem? gt
      refine ⟨rfl, _, rfl, t, x, rfl, ht.tk (TK.same s1), toks_mem ok t tm, ?_, ?_, fun v' H2 s2 iv => ?_⟩
      · have := Tr.depth_mem tm; omega
      · have := Tr.size_mem tm; omega
      · have ly := iy.length
        have eD2 := s2 _ _ eD
        refine ⟨_, eD2, szl (by rw [ly, List.length_take]; omega), ys ++ [v'], fun b o e => ?_, upd_same, ?_⟩
        · rw [upd_ne (ne_of_none e nD)]; exact s2 _ _ (s1 b o e)
        · rw [List.take_add_one, gt]
          exact ((iy.tk (TK.same s2)).snoc iv).tk (TK.put (mut_lst eD2))
    · obtain ⟨ys, s1, eD, iy⟩ := h
      rw [hl, List.take_length] at iy
      exact ⟨D, ys, rfl, .inl ⟨SqL.of eD, newT iy fun v' H' s2 iv => q v' H' (s1.trans s2) iv⟩⟩

theorem x_cps : ("x" : Str).cps.toList = [120] := by decide +kernel
theorem y_cps : ("y" : Str).cps.toList = [121] := by decide +kernel
theorem wok_x {s : Str} (h : WOk s) : WOk (cutS (s ++ "x") none (some 12)) := by
  obtain ⟨c, r, e, hc, hr, _⟩ := h
  refine ⟨c, (r ++ [120]).take 11, ?_, hc, fun x hx => ?_, by rw [List.length_take]; omega⟩
  · have := cut_take (z := s ++ "x") (n := 12)
    rw [app_cps, e, x_cps] at this
    exact this
  · rcases List.mem_append.mp (List.mem_of_mem_take hx) with z | z
    · exact hr x z
    · rw [List.mem_singleton.mp z]; decide +kernel
theorem wok_y {s : Str} (h : WOk s) : WOk (cutS s none (some (-1)) ++ "y") := by
  obtain ⟨c, r, e, hc, hr, h12⟩ := h
  have ls : s.length = r.length + 1 := by rw [← slen, e]; rfl
  have ec : (cutS s none (some (-1)) ++ "y").cps.toList = (c :: r).take r.length ++ [121] := by
    rw [app_cps, cut_init, e, y_cps, ls]; rfl
  cases r with
  | nil => exact ⟨121, [], by rw [ec]; rfl, by decide +kernel, fun _ h => absurd h List.not_mem_nil, by decide⟩
  | cons b r =>
    refine ⟨c, (b :: r).take r.length ++ [121], by rw [ec]; simp, hc, fun x hx => ?_, ?_⟩
    · rcases List.mem_append.mp hx with z | z
      · exact hr x (List.mem_of_mem_take z)
      · rw [List.mem_singleton.mp z]; decide +kernel
    · simp only [List.length_append, List.length_take, List.length_cons, List.length_nil] at h12 ⊢; omega
theorem toks_iff : ∀ {ts : List Tr}, TOks ts ↔ ∀ t ∈ ts, TOk t
  | [] => by simp [TOks]
  | t :: ts => by simp [TOks, toks_iff (ts := ts)]
theorem tok_l {ts : List Tr} : TOk (.l ts) ↔ ∀ t ∈ ts, TOk t := by simp only [TOk]; exact toks_iff
theorem tok_w {s : Str} : TOk (.w s) ↔ WOk s := by simp only [TOk]
theorem sizes_set {ts : List Tr} {i : Nat} {t t' : Tr} (h : ts[i]? = some t) : Tr.sizes (ts.take i ++ (t' :: ts.drop (i + 1))) + t.size = Tr.sizes ts + t'.size := by
  have e : ts = ts.take i ++ (t :: ts.drop (i + 1)) := by
    have hi := (List.getElem?_eq_some_iff.mp h)
    obtain ⟨hlt, hh⟩ := hi
    rw [← hh, ← List.drop_eq_getElem_cons hlt, List.take_append_drop]
  conv => rhs; rw [e]
  rw [Tr.sizes_append, Tr.sizes_append]
  simp only [Tr.sizes]; omega
theorem sizes_take_le (ts : List Tr) (i : Nat) : Tr.sizes (ts.take i) ≤ Tr.sizes ts := by
  conv => rhs; rw [← List.take_append_drop i ts]
  rw [Tr.sizes_append]; omega
theorem sizes_td (ts : List Tr) (i : Nat) : Tr.sizes (ts.take i) + Tr.sizes (ts.drop i) = Tr.sizes ts := by
  rw [← Tr.sizes_append, List.take_append_drop]
def spBent (K : PySem.W.Frag) (n : Nat) : Sp := fun vs H Q _ => ∃ (h d : Addr) (ds : List Int) (t : Tr) (v : V), vs = [.ref h, v] ∧ Hnd H h d ds ∧ IsT K H t v ∧ TOk t ∧ t.depth < n ∧ t.size ≤ 100000 ∧
  ∀ (t' : Tr) (v' : V) (H' : Hp), TOk t' → t'.size ≤ t.size + 1 → IsT K H' t' v' → Kp (At h) H H' → Hnd H' h d ds → Q v' H'
theorem ok_bent {P : Program} {w : World} {K : PySem.W.Frag} {mg : Str → Option Value} {base : Heap} (T : Top K mg) (G_law_take : FnOk P w K mg base CX0 1 T.a_law_take T.d_law_take ["_law_hand", "_law_many"] spTake) :
    ∀ n : Nat, FnOk P w K mg base CX0 (n + 2) T.a_law_bent T.d_law_bent ["_law_hand", "_law_value_here"] (spBent K n) := by
  intro n
  induction n with
  | zero => exact noSp fun vs H Q E h => by obtain ⟨_, _, _, _, _, _, _, _, _, hm, _⟩ := h; exact Nat.not_lt_zero _ hm
  | succ n G_law_bent =>
  refine T.F_law_bent.ok sc_law_bent (fun vs H Q E h => ?_) (fun cdv A outer s H vs Q E hr h => ?_)
  · obtain ⟨h, d, ds, t, v, rfl, _⟩ := h
    rfl
  obtain ⟨h, d, ds, t, v, rfl, hh, hv, ok, hd, hsz, q⟩ := h
  refine ⟨_, (pss_cons (ps_if (pt_val (pe_callB call_isi rfl T.n_isinstance bo_isinstance (pa_cons (pv 1) (pa_cons (pe_bltn (v := .ty "str") rfl T.n_str bo_str rfl) pa_nil)))) (pss_one (ps_ret (pe_ix ix_list (pe_lst (pa_cons (pe_slice sl_str (pe_op op_add_str (pv 1) pe_str) po_none (po_some pe_int)) (pa_cons (pe_op op_add_str (pe_slice sl_str (pv 1) po_none (po_some (pe_un un_neg pe_int))) pe_str) (pa_cons (pe_tup pa_nil) (pa_cons (pe_tup (pa_cons (pv 1) pa_nil)) pa_nil))))) (pe_call G_law_take (hr.mono (by omega)) rfl T.m_law_take T.F_law_take.kp T.b_law_take .nil pass0 (pa_cons (pv 0) (pa_cons pe_int pa_nil))) (fun _ _ => rfl)))) pss_nil)
    (pss_cons (ps_set (i := 2) sc_law_bent.nd rfl (Or.inl rfl) (pe_call G_law_take (hr.mono (by omega)) rfl T.m_law_take T.F_law_take.kp T.b_law_take .nil pass0 (pa_cons (pv 0) (pa_cons pe_int pa_nil))))
    (pss_cons (ps_if (PW.pt (pw_or (pt_cmpR op_eq (pe_callB call_len_seq rfl T.n_len bo_len (pa_cons (pv 1) pa_nil)) pe_int (nomark _)) (pw_or1 (pt_cmpR op_eq (pv 2) pe_int (nomark _))))) (pss_one (ps_ret (pe_op op_catA (pv 1) (pe_tup (pa_cons pe_str pa_nil))))) pss_nil)
    (pss_cons (ps_set (i := 3) sc_law_bent.nd rfl (Or.inl rfl) (pe_call G_law_take (hr.mono (by omega)) rfl T.m_law_take T.F_law_take.kp T.b_law_take .nil pass0 (pa_cons (pv 0) (pa_cons (pe_callB call_len_seq rfl T.n_len bo_len (pa_cons (pv 1) pa_nil)) pa_nil))))
    (pss_cons (ps_if (pt_cmpR op_eq (pv 2) pe_int (nomark _)) (pss_one (ps_ret (pe_op op_catA (pe_slice sl_tupA (pv 1) po_none (po_some (pv 3))) (pe_slice sl_tupA (pv 1) (po_some (pe_op op_add (pv 3) pe_int)) po_none)))) pss_nil)
    (pss_cons (ps_if (pt_cmpR op_eq (pv 2) pe_int (nomark _)) (pss_one (ps_ret (pe_op op_catA (pe_slice sl_tupA (pv 1) (po_some pe_int) po_none) (pe_slice sl_tupA (pv 1) po_none (po_some pe_int))))) pss_nil)
    (pss_one (ps_ret (pe_op op_catA (pe_op op_catA (pe_slice sl_tupA (pv 1) po_none (po_some (pv 3))) (pe_tup (pa_cons (pe_call G_law_bent (hr.mono (by omega)) rfl T.m_law_bent T.F_law_bent.kp T.b_law_bent .nil pass0 (pa_cons (pv 0) (pa_cons (pe_ix ix_tup (pv 1) (pv 3) (fun _ _ => rfl)) pa_nil))) pa_nil))) (pe_slice sl_tupA (pv 1) (po_some (pe_op op_add (pv 3) pe_int)) po_none)))))))))), ?_⟩
  cases t with
  | w s =>
    obtain rfl := isT_w.mp hv
    have wk := tok_w.mp ok
    have l12 := wok_len wk
    have lx := wok_len (wok_x wk)
    have ly := wok_len (wok_y wk)
    have lxs : (s ++ "x").length = s.length + 1 := by rw [← slen, app_cps, x_cps, List.length_append, slen]; rfl
    have lys : (cutS s none (some (-1)) ++ "y").length = (cutS s none (some (-1))).length + ("y" : Str).length := by rw [← slen, app_cps, List.length_append, slen, slen]
    have l1 : ("x" : Str).length = 1 := by decide +kernel
    refine ⟨_, rfl, _, _, _, _, true, rfl, .ty "str", tyX_str, kty k_ss, true, rfl, ?_⟩
    refine ⟨_, rfl, _, _, rfl, rfl, sz (by omega), _, rfl, _, rfl, sz (by omega), _, rfl, 1, rfl, _, rfl, s, rfl, sz (by omega), _, _, rfl, rfl, sz (by omega), Nat.zero_le _, fun p np => ⟨_, rfl, by show 1 ≤ sizeLine; decide, fun p2 np2 => ⟨by show 4 ≤ sizeLine; decide, fun L nL => ?_⟩⟩⟩
    have k3 : Same H (upd (upd (upd H p (.tup [])) p2 (.tup [.str s])) L (.lst [.str (cutS (s ++ "x") none (some 12)), .str (cutS s none (some (-1)) ++ "y"), .ref p, .ref p2])) := ((same_new np).trans (same_new np2)).trans (same_new nL)
    have e1 : _ = some (HO.tup []) := ((same_new (o := .tup [.str s]) np2).trans (same_new (o := .lst [.str (cutS (s ++ "x") none (some 12)), .str (cutS s none (some (-1)) ++ "y"), .ref p, .ref p2]) nL)) _ _ upd_same
    have e2 : _ = some (HO.tup [.str s]) := (same_new (o := .lst [.str (cutS (s ++ "x") none (some 12)), .str (cutS s none (some (-1)) ++ "y"), .ref p, .ref p2]) nL) _ _ upd_same
    have e3 : (upd (upd (upd H p (.tup [])) p2 (.tup [.str s])) L (.lst [.str (cutS (s ++ "x") none (some 12)), .str (cutS s none (some (-1)) ++ "y"), .ref p, .ref p2])) L = some (.lst [.str (cutS (s ++ "x") none (some 12)), .str (cutS s none (some (-1)) ++ "y"), .ref p, .ref p2]) := upd_same
    have nLh : L ≠ h := ((hh.new np).new np2).neH nL
    generalize (upd (upd (upd H p (.tup [])) p2 (.tup [.str s])) L (.lst [.str (cutS (s ++ "x") none (some 12)), .str (cutS s none (some (-1)) ++ "y"), .ref p, .ref p2])) = H1 at k3 e1 e2 e3 ⊢
    have hh1 := hh.same k3
    refine ⟨_, rfl, h, d, ds, 4, rfl, hh1, by decide, fun r H2 ra rb k2 hh2 => ?_⟩
    obtain ⟨x, ex, hx⟩ := at4V (x := .str (cutS (s ++ "x") none (some 12))) (y := .str (cutS s none (some (-1)) ++ "y")) (z := .ref p) (u := .ref p2) ra rb
    refine ⟨L, _, r, x, rfl, rfl, SqL.of (k2 L _ nLh e3), ex, ?_⟩
    have kk : Kp (At h) H H2 := (Kp.of k3).trans k2
    have t2 : TK K H1 H2 := hh1.tk k2
    rcases hx with rfl | rfl | rfl | rfl
    · exact q (.w _) _ _ (tok_w.mpr (wok_x wk)) (by simp [Tr.size]) IsT.str kk hh2
    · exact q (.w _) _ _ (tok_w.mpr (wok_y wk)) (by simp [Tr.size]) IsT.str kk hh2
    · exact q (.l []) _ _ (tok_l.mpr fun _ h => absurd h List.not_mem_nil) (by simp [Tr.size, Tr.sizes]) (IsT.tup (t2 _ _ (SqT.of e1)) IsTs.nil) kk hh2
    · exact q (.l [.w s]) _ _ (tok_l.mpr fun t ht => by rw [List.mem_singleton.mp ht]; exact ok) (by simp [Tr.size, Tr.sizes]) (IsT.tup (t2 _ _ (SqT.of e2)) (IsTs.one IsT.str)) kk hh2
  | l ts =>
    obtain ⟨a, us, rfl, ha, hus⟩ := isT_l.mp hv
    have hl := hus.length
    have tl := tok_l.mp ok
    simp only [Tr.depth] at hd
    simp only [Tr.size] at hsz q
    have hlt := Tr.length_le_sizes ts
    refine ⟨_, rfl, _, _, _, _, false, rfl, .ty "str", tyX_tup ha, kty k_ts, false, rfl, ?_⟩
    refine ⟨_, rfl, h, d, ds, 6, rfl, hh, by decide, fun kd H1 ka kb k1 hh1 => ?_⟩
    have hv1 := hv.tk (hh.tk k1)
    have ha1 := hh.tk k1 _ _ ha
    -- one more
    have more : ∀ (Qx : VK), (∀ v' H', Same H1 H' → IsT K H' (.l (ts ++ [.w "a"])) v' → Qx v' H') → ∀ p, H1 p = none → rCatA K (.ref a) (.ref p) (upd H1 p (.tup [.str "a"])) Qx := fun Qx qx p np =>
      catA (hv1.tk (TK.new np)) (IsT.tup (SqT.of upd_same) (IsTs.one (t := .w "a") IsT.str)) (by simp only [List.length_singleton]; omega) fun v' H' s i => qx v' H' ((same_new np).trans s) i
    have qmore : ∀ v' H', Same H1 H' → IsT K H' (.l (ts ++ [.w "a"])) v' → Q v' H' := fun v' H' s i => by
      refine q _ v' H' (tok_l.mpr fun t ht => ?_) ?_ i (k1.trans (Kp.of s)) (hh1.same s)
      · rcases List.mem_append.mp ht with z | z
        · exact tl t z
        · rw [List.mem_singleton.mp z]; exact tok_w.mpr ⟨97, [], by decide +kernel, by decide +kernel, fun _ h => absurd h List.not_mem_nil, by decide⟩
      · simp [Tr.size, Tr.sizes_append, Tr.sizes]
    dsimp only
    refine if_b (decide (ts.length = 0 ∨ kd = 0)) (fun Qb qb => ?_) (fun cb => ?_) (fun cb => ?_)
    · refine ⟨_, rfl, a, us, rfl, .inr ha1, rfl, _, rfl, ?_⟩
      by_cases h0 : ts.length = 0
      · rw [decide_eq_true (Or.inl h0)] at qb
        rw [decide_eq_true (show V.int ((us.length : Nat) : Int) = V.int 0 by rw [hl, h0]; rfl)]
        exact qb
      · rw [decide_eq_false (show ¬ V.int ((us.length : Nat) : Int) = V.int 0 by intro e; injection e with e; omega)]
        refine ⟨_, rfl, rfl, _, rfl, ?_⟩
        have : decide (V.int kd = V.int 0) = decide (ts.length = 0 ∨ kd = 0) := decide_eq_decide.mpr ⟨fun e => .inr (by injection e), fun e => by rcases e with e | e; exact absurd e h0; rw [e]⟩
        rw [this]; exact qb
    · exact ⟨_, rfl, by show 1 ≤ sizeLine; decide, fun p np => more _ qmore p np⟩
    have cb' := of_decide_eq_false cb
    have hp : 0 < ts.length := by omega
    refine ⟨_, rfl, _, rfl, a, us, rfl, .inr ha1, h, d, ds, _, rfl, hh1, by rw [hl]; omega, fun at_ H2 aa ab k2 hh2 => ?_⟩
    have hv2 := hv1.tk (hh1.tk k2)
    have ha2 := hh1.tk k2 _ _ ha1
    have k12 := k1.trans k2
    obtain ⟨i, rfl⟩ : ∃ i : Nat, at_ = (i : Int) := ⟨at_.toNat, by omega⟩
    have hi : i < ts.length := by omega
    have ei1 : ((i : Int) + 1) = ((i + 1 : Nat) : Int) := by omega
    have gt : ts[i]? = some ts[i] := List.getElem?_eq_getElem hi
    have sts := sizes_set (t' := ts[i]) gt
    have std1 := sizes_td ts i
    have std2 := sizes_td (ts.drop i) 1
    have edd : (ts.drop i).drop 1 = ts.drop (i + 1) := by rw [List.drop_drop]
    rw [edd] at std2
    have lti : (ts.take i).length = i := by rw [List.length_take]; omega
    have ldi : (ts.drop (i + 1)).length = ts.length - (i + 1) := List.length_drop
    -- one less
    refine ⟨_, rfl, rfl, _, rfl, ?_⟩
    by_cases h1 : kd = 1
    · rw [decide_eq_true (show V.int kd = V.int 1 by rw [h1])]
      refine ⟨_, rfl, _, rfl, _, rfl, slA hv2 fun v3 H3 s3 i3 => ⟨_, rfl, _, rfl, _, _, rfl, rfl, _, rfl, ?_⟩⟩
      dsimp only [tNoPart]
      refine slA (hv2.tk (TK.same s3)) fun v4 H4 s4 i4 => ?_
      rw [cutT_take (Nat.le_of_lt hi)] at i3
      rw [ei1, cutT_drop (n := i + 1) hi] at i4
      refine catA (i3.tk (TK.same s4)) i4 (by omega) fun v5 H5 s5 i5 => q _ _ _ (tok_l.mpr fun t ht => ?_) ?_ i5 (k12.trans (Kp.of (s3.trans (s4.trans s5)))) (hh2.same (s3.trans (s4.trans s5)))
      · rcases List.mem_append.mp ht with z | z
        · exact tl t (List.mem_of_mem_take z)
        · exact tl t (List.mem_of_mem_drop z)
      · simp only [Tr.size, Tr.sizes_append]; omega
    rw [decide_eq_false (show ¬ V.int kd = V.int 1 by intro e; injection e with e; exact h1 e)]
    -- turned
    refine ⟨_, rfl, rfl, _, rfl, ?_⟩
    by_cases h2 : kd = 2
    · rw [decide_eq_true (show V.int kd = V.int 2 by rw [h2])]
      refine ⟨_, rfl, _, rfl, ?_⟩
      dsimp only [tNoPart]
      refine slA hv2 fun v3 H3 s3 i3 => ⟨_, rfl, _, rfl, slA (hv2.tk (TK.same s3)) fun v4 H4 s4 i4 => ?_⟩
      have c1 := cutT_drop (as := ts) (n := 1) hp
      have c2 := cutT_take (as := ts) (n := 1) hp
      rw [show ((1 : Nat) : Int) = 1 from rfl] at c1 c2
      rw [c1] at i3
      rw [c2] at i4
      have a1 := sizes_td ts 1
      refine catA (i3.tk (TK.same s4)) i4 (by rw [List.length_drop, List.length_take]; omega) fun v5 H5 s5 i5 => q _ _ _ (tok_l.mpr fun t ht => ?_) ?_ i5 (k12.trans (Kp.of (s3.trans (s4.trans s5)))) (hh2.same (s3.trans (s4.trans s5)))
      · rcases List.mem_append.mp ht with z | z
        · exact tl t (List.mem_of_mem_drop z)
        · exact tl t (List.mem_of_mem_take z)
      · simp only [Tr.size, Tr.sizes_append]; omega
    rw [decide_eq_false (show ¬ V.int kd = V.int 2 by intro e; injection e with e; exact h2 e)]
    -- one place
    refine ⟨_, rfl, _, rfl, _, rfl, slA hv2 fun v3 H3 s3 i3 => ?_⟩
    rw [cutT_take (Nat.le_of_lt hi)] at i3
    have hv3 := hv2.tk (TK.same s3)
    have ha3 := TK.same (K := K) s3 _ _ ha2
    have hh3 := hh2.same s3
    have hus3 := hus.tk (K := K) ((hh.tk (k12.trans (Kp.of s3))))
    obtain ⟨x, gx, hx⟩ := hus3.get gt
    have hm := Tr.depth_mem (List.getElem_mem hi)
    have hms := Tr.size_mem (List.getElem_mem hi)
    refine ⟨_, rfl, _, rfl, _, rfl, a, us, (i : Int), x, rfl, rfl, ha3, atI_nat gx, h, d, ds, ts[i], x, rfl, hh3, hx, tl _ (List.getElem_mem hi), by omega, by omega, fun t' v' H4 ok' sz' iv' k4 hh4 => ⟨by show 1 ≤ sizeLine; decide, fun p np => ?_⟩⟩
    have tk4 := hh3.tk (K := K) k4
    have s5 : Same H4 (upd H4 p (.tup [v'])) := same_new np
    refine catA ((i3.tk tk4).tk (TK.same s5)) (IsT.tup (SqT.of upd_same) ((IsTs.one iv').tk (TK.same s5))) (by simp only [List.length_singleton]; omega) fun v6 H6 s6 i6 => ?_
    refine ⟨_, rfl, _, rfl, _, _, rfl, rfl, _, rfl, ?_⟩
    dsimp only [tNoPart]
    refine slA (((hv3.tk tk4).tk (TK.same s5)).tk (TK.same s6)) fun v7 H7 s7 i7 => ?_
    rw [ei1, cutT_drop (n := i + 1) hi] at i7
    refine catA (i6.tk (TK.same s7)) i7 (by rw [List.length_append, List.length_singleton]; omega) fun v8 H8 s8 i8 => ?_
    have ss : Same H4 H8 := (s5.trans s6).trans (s7.trans s8)
    refine q _ _ _ (tok_l.mpr fun t ht => ?_) ?_ i8 ((k12.trans (Kp.of s3)).trans (k4.trans (Kp.of ss))) (hh4.same ss)
    · rcases List.mem_append.mp ht with z | z
      · rcases List.mem_append.mp z with z | z
        · exact tl t (List.mem_of_mem_take z)
        · rw [List.mem_singleton.mp z]; exact ok'
      · exact tl t (List.mem_of_mem_drop z)
    · have := sizes_set (t' := t') gt
      rw [List.append_assoc, List.singleton_append]
      simp only [Tr.size]; omega

/-! ### _law_nested -/
theorem pos_3' : (0 : Int) < 3 := by decide
theorem pos_4' : (0 : Int) < 4 := by decide
def pick3 {α : Type} (k : Int) (a b c : α) : α := if k = 0 then a else if k = 1 then b else c
theorem at3p {x y z : V} {r : Int} (h0 : 0 ≤ r) (h1 : r < 3) : atI [x, y, z] r = some (pick3 r x y z) := by
  have e : r = 0 ∨ r = 1 ∨ r = 2 := by omega
  rcases e with rfl | rfl | rfl <;> rfl
theorem pick3_str {k : Int} {a b c : Str} : pick3 k (V.str a) (V.str b) (V.str c) = V.str (pick3 k a b c) := by
  unfold pick3; split
  · rfl
  · split <;> rfl
def nwd (other : Int) (i : Nat) : Str := if (i : Int) = other then "c" else pick3 ((i : Int) % 3) "a" "b2" "quote"
def npl (kind : Int) (i : Nat) : Int := if ((i : Int) + kind) % 4 = 1 then 1 else if ((i : Int) + kind) % 4 = 2 then 2 else 0
def nwrap (wd : Str) (p : Int) (t : Tr) : Tr := pick3 p (.l [t]) (.l [.w wd, t]) (.l [t, .w wd])
def nest (kind other : Int) : Nat → Tr → Tr
  | 0, t => t
  | i + 1, t => nwrap (nwd other i) (npl kind i) (nest kind other i t)
theorem nwd_ok (other : Int) (i : Nat) : WOk (nwd other i) := by
  unfold nwd pick3
  split
  · exact ⟨99, [], by decide +kernel, by decide +kernel, fun _ h => absurd h List.not_mem_nil, by decide⟩
  · split
    · exact ⟨97, [], by decide +kernel, by decide +kernel, fun _ h => absurd h List.not_mem_nil, by decide⟩
    · split
      · exact ⟨98, [50], by decide +kernel, by decide +kernel, by decide +kernel, by decide⟩
      · exact ⟨113, [117, 111, 116, 101], by decide +kernel, by decide +kernel, by decide +kernel, by decide⟩
theorem npl_3 (kind : Int) (i : Nat) : npl kind i = 0 ∨ npl kind i = 1 ∨ npl kind i = 2 := by
  unfold npl; split
  · exact .inr (.inl rfl)
  · split
    · exact .inr (.inr rfl)
    · exact .inl rfl
theorem nwrap_ok {wd : Str} {p : Int} {t : Tr} (h : WOk wd) (ht : TOk t) : TOk (nwrap wd p t) := by
  unfold nwrap pick3
  split
  · exact tok_l.mpr fun x hx => by rw [List.mem_singleton.mp hx]; exact ht
  · split
    · exact tok_l.mpr fun x hx => by
        rcases List.mem_cons.mp hx with z | z
        · rw [z]; exact tok_w.mpr h
        · rw [List.mem_singleton.mp z]; exact ht
    · exact tok_l.mpr fun x hx => by
        rcases List.mem_cons.mp hx with z | z
        · rw [z]; exact ht
        · rw [List.mem_singleton.mp z]; exact tok_w.mpr h
theorem nwrap_size {wd : Str} {p : Int} {t : Tr} : t.size < (nwrap wd p t).size ∧ (nwrap wd p t).size ≤ t.size + 2 := by
  unfold nwrap pick3
  split
  · simp only [Tr.size, Tr.sizes]; omega
  · split <;> (simp only [Tr.size, Tr.sizes]; omega)
theorem nest_ok {kind other : Int} {t : Tr} (h : TOk t) : ∀ n, TOk (nest kind other n t)
  | 0 => h
  | n + 1 => nwrap_ok (nwd_ok _ _) (nest_ok h n)
theorem nest_size {kind other : Int} {t : Tr} : ∀ n, (nest kind other n t).size ≤ t.size + 2 * n
  | 0 => Nat.le_refl _
  | n + 1 => by
    have := nest_size (kind := kind) (other := other) (t := t) n
    have := (nwrap_size (wd := nwd other n) (p := npl kind n) (t := nest kind other n t)).2
    simp only [nest]; omega
theorem nwrap_inj {wd : Str} {p : Int} (hp : p = 0 ∨ p = 1 ∨ p = 2) {a b : Tr} : nwrap wd p a = nwrap wd p b ↔ a = b := by
  rcases hp with rfl | rfl | rfl <;> simp [nwrap, pick3]
theorem nest_inj {kind other : Int} {a b : Tr} : ∀ n, nest kind other n a = nest kind other n b ↔ a = b
  | 0 => Iff.rfl
  | n + 1 => by simp only [nest]; rw [nwrap_inj (npl_3 _ _)]; exact nest_inj n
/-- the word of one place is another -/
theorem nest_other {kind other : Int} {t : Tr} : ∀ n : Nat, nest kind other n t = nest kind (-1) n t ↔ ¬ (∃ i : Nat, i < n ∧ (i : Int) = other ∧ 0 < npl kind i)
  | 0 => by simp [nest]
  | n + 1 => by
    have ih := nest_other (kind := kind) (other := other) (t := t) n
    simp only [nest]
    have e1 : nwd (-1) n = pick3 ((n : Int) % 3) ("a" : Str) ("b2" : Str) ("quote" : Str) := by unfold nwd; rw [if_neg (by omega)]
    have c1 : ("c" : Str) ≠ "a" := by decide +kernel
    have c2 : ("c" : Str) ≠ "b2" := by decide +kernel
    have c3 : ("c" : Str) ≠ "quote" := by decide +kernel
    have ne : ("c" : Str) ≠ nwd (-1) n := by
      rw [e1]; unfold pick3; split
      · exact c1
      · split
        · exact c2
        · exact c3
    by_cases ho : (n : Int) = other
    · have e2 : nwd other n = "c" := by unfold nwd; rw [if_pos ho]
      have below : ¬ ∃ i : Nat, i < n ∧ (i : Int) = other ∧ 0 < npl kind i := fun ⟨i, h1, h2, _⟩ => by omega
      have eq := ih.mpr below
      rw [eq, e2]
      rcases npl_3 kind n with e | e | e
      · rw [e]
        constructor
        · rintro _ ⟨i, h1, h2, h3⟩
          have : i = n := by omega
          subst this; omega
        · intro _; rfl
      · rw [e]
        constructor
        · intro h; simp [nwrap, pick3] at h; exact absurd h ne
        · intro h; exact absurd ⟨n, Nat.lt_succ_self n, ho, by omega⟩ h
      · rw [e]
        constructor
        · intro h; simp [nwrap, pick3] at h; exact absurd h ne
        · intro h; exact absurd ⟨n, Nat.lt_succ_self n, ho, by omega⟩ h
    · have e2 : nwd other n = nwd (-1) n := by rw [e1]; unfold nwd; rw [if_neg ho]
      rw [e2, nwrap_inj (npl_3 _ _), ih]
      constructor
      · rintro h ⟨i, h1, h2, h3⟩
        exact h ⟨i, by omega, h2, h3⟩
      · rintro h ⟨i, h1, h2, h3⟩
        exact h ⟨i, by omega, h2, h3⟩
def spNested (K : PySem.W.Frag) : Sp := fun vs H Q _ => ∃ (t : Tr) (v : V) (many kind other : Int), vs = [v, .int many, .int kind, .int other] ∧ IsT K H t v ∧ 0 ≤ many ∧ many ≤ 300 ∧ 0 ≤ kind ∧ kind ≤ 3 ∧
  ∀ (v' : V) (H' : Hp), Same H H' → IsT K H' (nest kind other many.toNat t) v' → Q v' H'
theorem ok_nested {P : Program} {w : World} {K : PySem.W.Frag} {mg : Str → Option Value} {base : Heap} (T : Top K mg) {k : Nat} : FnOk P w K mg base CX0 (k + 1) T.a_law_nested T.d_law_nested ["_law_value_here", "_law_many", "_law_kind", "_law_other"] (spNested K) := by
  refine T.F_law_nested.ok sc_law_nested (fun vs H Q E h => ?_) (fun cdv A outer s H vs Q E hr h => ?_)
  · obtain ⟨t, v, m, kd, o, rfl, _⟩ := h
    rfl
  obtain ⟨t, v, many, kind, other, rfl, hv, m0, m1, k0, k1, q⟩ := h
  refine ⟨_, (pss_cons (ps_for PassesOwn.never rfl (pi_range1 rfl T.n_range (pa_cons (pv 1) pa_nil)) (pg_name (i := 4) sc_law_nested.nd rfl (Or.inl rfl)) (pss_cons (ps_set (i := 5) sc_law_nested.nd rfl (Or.inl rfl) (pe_ix ix_list (pe_lst (pa_cons pe_str (pa_cons pe_str (pa_cons pe_str pa_nil)))) (pe_op op_mod (pe_callTy call_int1 rfl T.n_int bo_int (pa_cons (pv 4) pa_nil)) pe_int) (fun _ _ => rfl)))
    (C8.pss_cut (ps_if (pt_cmpR op_eq (pv 4) (pv 3) (nomark _)) (pss_one (ps_set (i := 5) sc_law_nested.nd rfl (Or.inl rfl) pe_str)) pss_nil)
    (pss_cons (ps_set (i := 6) sc_law_nested.nd rfl (Or.inl rfl) (pe_ix ix_list (pe_lst (pa_cons pe_int (pa_cons pe_int (pa_cons pe_int (pa_cons pe_int pa_nil))))) (pe_op op_mod (pe_callTy call_int1 rfl T.n_int bo_int (pa_cons (pe_op op_add (pv 4) (pv 2)) pa_nil)) pe_int) (fun _ _ => rfl)))
    (pss_one (ps_set (i := 0) sc_law_nested.nd rfl (Or.inl rfl) (pe_ix ix_list (pe_lst (pa_cons (pe_tup (pa_cons (pv 0) pa_nil)) (pa_cons (pe_tup (pa_cons (pv 5) (pa_cons (pv 0) pa_nil))) (pa_cons (pe_tup (pa_cons (pv 0) (pa_cons (pv 5) pa_nil))) pa_nil)))) (pv 6) (fun _ _ => rfl))))))))
    (pss_one (ps_ret (pv 0)))), ?_⟩
  refine ⟨_, rfl, many, rfl, by omega, by omega, ?_⟩
  refine for_range (lo := 0) (n := many.toNat) (fun i σ H' => ∃ (v' : V) (y4 y5 y6 : Option V), σ = [some v', some (.int many), some (.int kind), some (.int other), y4, y5, y6] ∧ Same H H' ∧ IsT K H' (nest kind other i t) v')
    ⟨v, _, _, _, rfl, Same.refl H, hv⟩ (fun i σ H1 hi hP => ?_) (fun σ H1 hP => ?_)
  · obtain ⟨v', y4, y5, y6, rfl, s1, iv⟩ := hP
    have ei : (0 : Int) + (i : Int) = (i : Int) := by omega
    rw [ei]
    have d0 := Int.emod_nonneg (i : Int) (show (3 : Int) ≠ 0 by decide)
    have d1 := Int.emod_lt_of_pos (i : Int) pos_3'
    refine ⟨by show 3 ≤ sizeLine; decide, fun A nA => ⟨_, rfl, .inl ⟨_, rfl, _, _, rfl, rfl, pos_3', ?_⟩⟩⟩
    refine ⟨A, _, _, _, rfl, rfl, SqL.of upd_same, at3p d0 d1, ?_⟩
    rw [pick3_str]
    have s2 := s1.trans (same_new (o := .lst [.str "a", .str "b2", .str "quote"]) nA)
    have iv2 := iv.tk (TK.new (K := K) (o := .lst [.str "a", .str "b2", .str "quote"]) nA)
    generalize (upd H1 A (.lst [.str "a", .str "b2", .str "quote"])) = H2 at s2 iv2 ⊢
    refine ⟨fun σ' H' => σ' = [some v', some (.int many), some (.int kind), some (.int other), some (.int (i : Int)), some (.str (nwd other i)), y6] ∧ H2 = H', ?_, ?_⟩
    · refine ⟨_, rfl, _, rfl, rfl, _, rfl, ?_⟩
      by_cases ho : (i : Int) = other
      · rw [decide_eq_true (show V.int (i : Int) = V.int other by rw [ho])]
        refine ⟨?_, rfl⟩
        unfold nwd
        rw [if_pos ho]; rfl
      · rw [decide_eq_false (show ¬ V.int (i : Int) = V.int other by intro e; injection e with e; exact ho e)]
        refine ⟨?_, rfl⟩
        unfold nwd
        rw [if_neg ho]; rfl
    rintro σ' H' ⟨rfl, rfl⟩
    -- the place
    refine ⟨by show 4 ≤ sizeLine; decide, fun B nB => ⟨_, rfl, _, rfl, _, _, rfl, rfl, .inl ⟨_, rfl, _, _, rfl, rfl, pos_4', ?_⟩⟩⟩
    have f0 := Int.emod_nonneg ((i : Int) + kind) (show (4 : Int) ≠ 0 by decide)
    have f1 := Int.emod_lt_of_pos ((i : Int) + kind) pos_4'
    have epl : atI [V.int 0, .int 1, .int 2, .int 0] (((i : Int) + kind) % 4) = some (.int (npl kind i)) := by
      unfold npl
      generalize ((i : Int) + kind) % 4 = m at f0 f1
      have e : m = 0 ∨ m = 1 ∨ m = 2 ∨ m = 3 := by omega
      rcases e with rfl | rfl | rfl | rfl <;> rfl
    refine ⟨B, _, _, _, rfl, rfl, SqL.of upd_same, epl, ?_⟩
    have s3 := s2.trans (same_new (o := .lst [.int 0, .int 1, .int 2, .int 0]) nB)
    have iv3 := iv2.tk (TK.new (K := K) (o := .lst [.int 0, .int 1, .int 2, .int 0]) nB)
    generalize (upd H2 B (.lst [.int 0, .int 1, .int 2, .int 0])) = H3 at s3 iv3 ⊢
    -- the value
    refine ⟨_, rfl, by show 1 ≤ sizeLine; decide, fun T1 n1 => ⟨_, rfl, _, rfl, by show 2 ≤ sizeLine; decide, fun T2 n2 => ⟨_, rfl, _, rfl, by show 2 ≤ sizeLine; decide, fun T3 n3 => ⟨by show 3 ≤ sizeLine; decide, fun C nC => ?_⟩⟩⟩⟩
    have a1 := same_new (o := .tup [v']) n1
    have a2 := same_new (o := .tup [.str (nwd other i), v']) n2
    have a3 := same_new (o := .tup [v', .str (nwd other i)]) n3
    have a4 := same_new (o := .lst [.ref T1, .ref T2, .ref T3]) nC
    have z1 := ((a2.trans a3).trans a4) _ _ upd_same
    have z2 := (a3.trans a4) _ _ upd_same
    have z3 := a4 _ _ upd_same
    have z4 : (upd (upd (upd (upd H3 T1 (.tup [v'])) T2 (.tup [.str (nwd other i), v'])) T3 (.tup [v', .str (nwd other i)])) C (.lst [.ref T1, .ref T2, .ref T3])) C = some (.lst [.ref T1, .ref T2, .ref T3]) := upd_same
    have s4 := ((a1.trans a2).trans a3).trans a4
    generalize (upd (upd (upd (upd H3 T1 (.tup [v'])) T2 (.tup [.str (nwd other i), v'])) T3 (.tup [v', .str (nwd other i)])) C (.lst [.ref T1, .ref T2, .ref T3])) = H4 at z1 z2 z3 z4 s4 ⊢
    have iv4 := iv3.tk (TK.same (K := K) s4)
    have p3 := npl_3 kind i
    refine ⟨_, rfl, C, _, npl kind i, _, rfl, rfl, SqL.of z4, at3p (by omega) (by omega), ?_⟩
    refine ⟨pick3 (npl kind i) (.ref T1) (.ref T2) (.ref T3), _, _, _, rfl, s3.trans s4, ?_⟩
    simp only [nest, nwrap]
    rcases p3 with e | e | e
    · rw [e]; exact IsT.tup (SqT.of z1) (IsTs.one iv4)
    · rw [e]; exact IsT.tup (SqT.of z2) (.cons IsT.str (.one iv4))
    · rw [e]; exact IsT.tup (SqT.of z3) (.cons iv4 (.one IsT.str))
  · obtain ⟨v', y4, y5, y6, rfl, s1, iv⟩ := hP
    exact ⟨_, rfl, q v' H1 s1 iv⟩

/-! ### _law_tells -/
theorem k_bb : kitB "bool" "bool" = some true := by decide +kernel
theorem tok_sok : ∀ {t : Tr}, TOk t → t.sok = true := by
  have : ∀ n : Nat, ∀ t : Tr, t.size < n → TOk t → t.sok = true := by
    intro n
    induction n with
    | zero => intro t h; exact absurd h (Nat.not_lt_zero _)
    | succ n ih =>
      intro t h ok
      cases t with
      | w s => simp only [Tr.sok]; exact wok_sw (tok_w.mp ok)
      | l ts => exact Tr.sok_l.mpr fun t ht => ih t (by have := Tr.size_mem ht; simp only [Tr.size] at h; omega) (tok_l.mp ok t ht)
  intro t h
  exact this (t.size + 1) t (Nat.lt_succ_self _) h
def spTells (K : PySem.W.Frag) : Sp := fun vs H Q _ => ∃ (t1 t2 : Tr) (v1 v2 : V) (due : Bool), vs = [v1, v2, .bl due] ∧ IsT K H t1 v1 ∧ IsT K H t2 v2 ∧ TOk t1 ∧ TOk t2 ∧ t1.size ≤ 399999 ∧ t2.size ≤ 399999 ∧ due = decide (t1 = t2) ∧
  ∀ (H' : Hp), Same H H' → Q (.bl true) H'
theorem ok_tells {P : Program} {w : World} {K : PySem.W.Frag} {mg : Str → Option Value} {base : Heap} (T : Top K mg) {k : Nat} (G_same_values : FnOk P w K mg base CX0 1 T.a_same_values T.d_same_values ["first", "second"] (spSame K)) :
    FnOk P w K mg base CX0 (k + 2) T.a_law_tells T.d_law_tells ["_law_first", "_law_second", "_law_due"] (spTells K) := by
  refine T.F_law_tells.ok sc_law_tells (fun vs H Q E h => ?_) (fun cdv A outer s H vs Q E hr h => ?_)
  · obtain ⟨t1, t2, v1, v2, due, rfl, _⟩ := h
    rfl
  obtain ⟨t1, t2, v1, v2, due, rfl, h1, h2, o1, o2, z1, z2, hdue, q⟩ := h
  have s1 := tok_sok o1
  have s2 := tok_sok o2
  refine ⟨_, (pss_cons (ps_for PassesOwn.never rfl (pi_list (pe_lst (pa_cons (pe_tup (pa_cons (pv 0) (pa_cons (pv 1) pa_nil))) (pa_cons (pe_tup (pa_cons (pv 1) (pa_cons (pv 0) pa_nil))) pa_nil)))) (pg_name (i := 3) sc_law_tells.nd rfl (Or.inl rfl)) (pss_cons (ps_set (i := 4) sc_law_tells.nd rfl (Or.inl rfl) (pe_call G_same_values (hr.mono (by omega)) rfl T.m_same_values T.F_same_values.kp T.b_same_values .nil pass0 (pa_cons (pe_ix ix_tup (pv 3) pe_int (fun _ _ => rfl)) (pa_cons (pe_ix ix_tup (pv 3) pe_int (fun _ _ => rfl)) pa_nil))))
    (pss_one (ps_if (PW.pt (pw_or (pt_not (pt_val (pe_callB call_isi rfl T.n_isinstance bo_isinstance (pa_cons (pv 4) (pa_cons (pe_bltn (v := .ty "bool") rfl T.n_bool bo_bool rfl) pa_nil))))) (pw_or1 (pt_cmpR op_ne (pv 4) (pv 2) (nomark _))))) (pss_one (ps_ret pe_bl)) pss_nil))))
    (pss_one (ps_ret (pe_and (pe_cmpR op_is_bl (pe_call G_same_values (hr.mono (by omega)) rfl T.m_same_values T.F_same_values.kp T.b_same_values .nil pass0 (pa_cons (pv 0) (pa_cons (pv 0) pa_nil))) pe_bl (nomark _)) (pe_one (pe_cmpR op_is_bl (pe_call G_same_values (hr.mono (by omega)) rfl T.m_same_values T.F_same_values.kp T.b_same_values .nil pass0 (pa_cons (pv 1) (pa_cons (pv 1) pa_nil))) pe_bl (nomark _))))))), ?_⟩
  refine ⟨_, rfl, _, rfl, by show 2 ≤ sizeLine; decide, fun a na => ⟨_, rfl, _, rfl, by show 2 ≤ sizeLine; decide, fun b nb => ⟨by show 2 ≤ sizeLine; decide, fun L nL => ?_⟩⟩⟩
  have a1 := same_new (o := .tup [v1, v2]) na
  have a2 := same_new (o := .tup [v2, v1]) nb
  have a3 := same_new (o := .lst [.ref a, .ref b]) nL
  have e1 := (a2.trans a3) _ _ upd_same
  have e2 := a3 _ _ upd_same
  have e3 : (upd (upd (upd H a (.tup [v1, v2])) b (.tup [v2, v1])) L (.lst [.ref a, .ref b])) L = some (.lst [.ref a, .ref b]) := upd_same
  have ss := (a1.trans a2).trans a3
  generalize (upd (upd (upd H a (.tup [v1, v2])) b (.tup [v2, v1])) L (.lst [.ref a, .ref b])) = H1 at e1 e2 e3 ss ⊢
  refine ⟨L, rfl, ⟨_, SqL.of e3⟩, ?_⟩
  refine for_list (K := K) (a := L) (xs := [.ref a, .ref b]) (fun i σ H' => ∃ y3 y4 : Option V, σ = [some v1, some v2, some (.bl due), y3, y4] ∧ Same H1 H')
    ⟨_, _, rfl, Same.refl H1⟩ (fun i σ H' _ h => let ⟨_, _, _, z⟩ := h; SqL.of (z _ _ e3)) (fun i x σ H2 hx h => ?_) (fun σ H2 h => ?_)
  · obtain ⟨y3, y4, rfl, s12⟩ := h
    have k2 := ss.trans s12
    have one : ∃ (p : Addr) (u1 u2 : Tr) (w1 w2 : V), x = .ref p ∧ H2 p = some (.tup [w1, w2]) ∧ IsT K H2 u1 w1 ∧ IsT K H2 u2 w2 ∧ u1.sok = true ∧ u2.sok = true ∧ u2.size ≤ 399999 ∧ decide (u1 = u2) = due := by
      match i, hx with
      | 0, hx =>
        injection hx with hx
        exact ⟨a, t1, t2, v1, v2, hx.symm, s12 _ _ e1, h1.tk (TK.same k2), h2.tk (TK.same k2), s1, s2, z2, hdue.symm⟩
      | 1, hx =>
        injection hx with hx
        exact ⟨b, t2, t1, v2, v1, hx.symm, s12 _ _ e2, h2.tk (TK.same k2), h1.tk (TK.same k2), s2, s1, z1, by rw [hdue]; exact decide_eq_decide.mpr eq_comm⟩
      | n + 2, hx => exact absurd hx (by simp)
    obtain ⟨p, u1, u2, w1, w2, rfl, ep, i1, i2, k1, k2', zz, ed⟩ := one
    refine ⟨_, rfl, p, _, (0 : Int), w1, rfl, rfl, SqT.of ep, rfl, _, rfl, p, _, (1 : Int), w2, rfl, rfl, SqT.of ep, rfl, u1, u2, w1, w2, rfl, i1, i2, k1, k2', zz, fun H3 s3 => ?_⟩
    rw [ed]
    refine ⟨_, rfl, _, _, _, _, true, rfl, .ty "bool", .base (.bl _), kty k_bb, true, rfl, ?_⟩
    refine ⟨_, rfl, _, rfl, rfl, _, rfl, ?_⟩
    rw [decide_eq_true rfl]
    exact ⟨_, _, rfl, s12.trans s3⟩
  · obtain ⟨y3, y4, rfl, s12⟩ := h
    have k2 := ss.trans s12
    refine ⟨_, rfl, _, rfl, t1, t1, v1, v1, rfl, h1.tk (TK.same k2), h1.tk (TK.same k2), s1, s1, z1, fun H3 s3 => ?_⟩
    rw [decide_eq_true rfl]
    refine ⟨_, _, rfl, rfl, _, rfl, ?_⟩
    refine ⟨_, rfl, _, rfl, t2, t2, v2, v2, rfl, (h2.tk (TK.same k2)).tk (TK.same s3), (h2.tk (TK.same k2)).tk (TK.same s3), s2, s2, z2, fun H4 s4 => ?_⟩
    rw [decide_eq_true rfl]
    exact ⟨_, _, rfl, rfl, q H4 ((k2.trans s3).trans s4)⟩

/-! ### law -/
def spLaw (K : PySem.W.Frag) : Sp := fun vs H Q _ => ∃ (a : Addr) (ns : List Int), vs = [.ref a] ∧ SqL K H a (ns.map V.int) ∧ ns.length ≤ 63 ∧ ∀ H', Q (.bl true) H'
/-- what stands through the law -/
structure Stn (K : PySem.W.Frag) (H : Hp) (h d : Addr) (ds : List Int) (t t2 : Tr) (v v2 : V) : Prop where
  hh : Hnd H h d ds
  i1 : IsT K H t v
  i2 : IsT K H t2 v2
theorem Stn.same {K : PySem.W.Frag} {H H' : Hp} {h d : Addr} {ds : List Int} {t t2 : Tr} {v v2 : V} (x : Stn K H h d ds t t2 v v2) (s : Same H H') : Stn K H' h d ds t t2 v v2 := ⟨x.hh.same s, x.i1.tk (TK.same s), x.i2.tk (TK.same s)⟩
theorem Stn.kp {K : PySem.W.Frag} {H H' : Hp} {h d : Addr} {ds : List Int} {t t2 : Tr} {v v2 : V} (x : Stn K H h d ds t t2 v v2) (k : Kp (At h) H H') (hh : Hnd H' h d ds) : Stn K H' h d ds t t2 v v2 := ⟨hh, x.i1.tk (x.hh.tk k), x.i2.tk (x.hh.tk k)⟩
theorem ok_law {P : Program} {w : World} {K : PySem.W.Frag} {mg : Str → Option Value} {base : Heap} (T : Top K mg) : FnOk P w K mg base CX0 8 T.a_law T.d_law ["_law_script"] (spLaw K) := by
  have G_law_draws := ok_draws (P := P) (w := w) (base := base) T (k := 0)
  have G_law_take := ok_take (P := P) (w := w) (base := base) T (k := 0)
  have G_law_word := ok_word (P := P) (w := w) (base := base) T (k := 0) G_law_take
  have G_law_value := ok_value (P := P) (w := w) (base := base) T G_law_take G_law_word 5
  have G_law_like := ok_like (P := P) (w := w) (base := base) T (k := 0)
  have G_same_values := ok_same (P := P) (w := w) (base := base) T (k := 0)
  have G_law_again := ok_again (P := P) (w := w) (base := base) T 5
  have G_law_bent := ok_bent (P := P) (w := w) (base := base) T G_law_take 5
  have G_law_nested := ok_nested (P := P) (w := w) (base := base) T (k := 0)
  have G_law_tells := ok_tells (P := P) (w := w) (base := base) T (k := 0) G_same_values
  refine T.F_law.ok sc_law (fun vs H Q E h => ?_) (fun cdv A outer s H vs Q E hr h => ?_)
  · obtain ⟨a, ns, rfl, _⟩ := h
    rfl
  obtain ⟨a, ns, rfl, hS, h63, q⟩ := h
  refine ⟨_, (pss_cons (ps_set (i := 1) sc_law.nd rfl (Or.inl rfl) (pe_lst (pa_cons (pe_call G_law_draws (hr.mono (by omega)) rfl T.m_law_draws T.F_law_draws.kp T.b_law_draws .nil pass0 (pa_cons (pv 0) (pa_cons pe_int pa_nil))) (pa_cons pe_int pa_nil))))
    (pss_cons (ps_set (i := 2) sc_law.nd rfl (Or.inl rfl) (pe_call G_law_value (hr.mono (by omega)) rfl T.m_law_value T.F_law_value.kp T.b_law_value .nil pass0 (pa_cons (pv 1) (pa_cons (pe_call G_law_take (hr.mono (by omega)) rfl T.m_law_take T.F_law_take.kp T.b_law_take .nil pass0 (pa_cons (pv 1) (pa_cons pe_int pa_nil))) pa_nil))))
    (pss_cons (ps_set (i := 3) sc_law.nd rfl (Or.inl rfl) (pe_lst (pa_cons (pe_call G_law_again (hr.mono (by omega)) rfl T.m_law_again T.F_law_again.kp T.b_law_again .nil pass0 (pa_cons (pv 2) pa_nil)) (pa_cons (pe_call G_law_value (hr.mono (by omega)) rfl T.m_law_value T.F_law_value.kp T.b_law_value .nil pass0 (pa_cons (pv 1) (pa_cons (pe_call G_law_take (hr.mono (by omega)) rfl T.m_law_take T.F_law_take.kp T.b_law_take .nil pass0 (pa_cons (pv 1) (pa_cons pe_int pa_nil))) pa_nil))) (pa_cons (pe_call G_law_bent (hr.mono (by omega)) rfl T.m_law_bent T.F_law_bent.kp T.b_law_bent .nil pass0 (pa_cons (pv 1) (pa_cons (pv 2) pa_nil))) (pa_cons (pe_call G_law_bent (hr.mono (by omega)) rfl T.m_law_bent T.F_law_bent.kp T.b_law_bent .nil pass0 (pa_cons (pv 1) (pa_cons (pv 2) pa_nil))) pa_nil))))))
    (pss_cons (ps_set (i := 4) sc_law.nd rfl (Or.inl rfl) (pe_ix ix_list (pv 3) (pe_call G_law_take (hr.mono (by omega)) rfl T.m_law_take T.F_law_take.kp T.b_law_take .nil pass0 (pa_cons (pv 1) (pa_cons pe_int pa_nil))) (fun _ _ => rfl)))
    (pss_cons (ps_set (i := 5) sc_law.nd rfl (Or.inl rfl) (pe_call G_law_like (hr.mono (by omega)) rfl T.m_law_like T.F_law_like.kp T.b_law_like .nil pass0 (pa_cons (pv 4) (pa_cons (pv 2) pa_nil))))
    (pss_cons (ps_if (pt_not (pt_val (pe_call G_law_tells (hr.mono (by omega)) rfl T.m_law_tells T.F_law_tells.kp T.b_law_tells .nil pass0 (pa_cons (pv 2) (pa_cons (pv 4) (pa_cons (pv 5) pa_nil)))))) (pss_one (ps_ret pe_bl)) pss_nil)
    (pss_cons (ps_set (i := 6) sc_law.nd rfl (Or.inl rfl) (pe_ix ix_list (pe_lst (pa_cons (pe_call G_law_take (hr.mono (by omega)) rfl T.m_law_take T.F_law_take.kp T.b_law_take .nil pass0 (pa_cons (pv 1) (pa_cons pe_int pa_nil))) (pa_cons (pe_call G_law_take (hr.mono (by omega)) rfl T.m_law_take T.F_law_take.kp T.b_law_take .nil pass0 (pa_cons (pv 1) (pa_cons pe_int pa_nil))) pa_nil))) (pe_call G_law_take (hr.mono (by omega)) rfl T.m_law_take T.F_law_take.kp T.b_law_take .nil pass0 (pa_cons (pv 1) (pa_cons pe_int pa_nil))) (fun _ _ => rfl)))
    (pss_cons (ps_set (i := 7) sc_law.nd rfl (Or.inl rfl) (pe_call G_law_take (hr.mono (by omega)) rfl T.m_law_take T.F_law_take.kp T.b_law_take .nil pass0 (pa_cons (pv 1) (pa_cons pe_int pa_nil))))
    (pss_cons (ps_set (i := 8) sc_law.nd rfl (Or.inl rfl) (pe_call G_law_nested (hr.mono (by omega)) rfl T.m_law_nested T.F_law_nested.kp T.b_law_nested .nil pass0 (pa_cons (pv 2) (pa_cons (pv 6) (pa_cons (pv 7) (pa_cons (pe_un un_neg pe_int) pa_nil))))))
    (pss_cons (ps_if (pt_not (pt_val (pe_call G_law_tells (hr.mono (by omega)) rfl T.m_law_tells T.F_law_tells.kp T.b_law_tells .nil pass0 (pa_cons (pv 8) (pa_cons (pe_call G_law_nested (hr.mono (by omega)) rfl T.m_law_nested T.F_law_nested.kp T.b_law_nested .nil pass0 (pa_cons (pv 4) (pa_cons (pv 6) (pa_cons (pv 7) (pa_cons (pe_un un_neg pe_int) pa_nil))))) (pa_cons (pv 5) pa_nil)))))) (pss_one (ps_ret pe_bl)) pss_nil)
    (pss_cons (ps_if (pt_not (pt_val (pe_call G_law_tells (hr.mono (by omega)) rfl T.m_law_tells T.F_law_tells.kp T.b_law_tells .nil pass0 (pa_cons (pv 8) (pa_cons (pe_call G_law_nested (hr.mono (by omega)) rfl T.m_law_nested T.F_law_nested.kp T.b_law_nested .nil pass0 (pa_cons (pe_call G_law_again (hr.mono (by omega)) rfl T.m_law_again T.F_law_again.kp T.b_law_again .nil pass0 (pa_cons (pv 2) pa_nil)) (pa_cons (pv 6) (pa_cons (pv 7) (pa_cons (pe_un un_neg pe_int) pa_nil))))) (pa_cons pe_bl pa_nil)))))) (pss_one (ps_ret pe_bl)) pss_nil)
    (pss_cons (ps_if (PW.pt (pw_or (pt_not (pt_val (pe_call G_law_tells (hr.mono (by omega)) rfl T.m_law_tells T.F_law_tells.kp T.b_law_tells .nil pass0 (pa_cons (pv 8) (pa_cons (pe_tup (pa_cons (pv 8) pa_nil)) (pa_cons pe_bl pa_nil)))))) (pw_or1 (pt_not (pt_val (pe_call G_law_tells (hr.mono (by omega)) rfl T.m_law_tells T.F_law_tells.kp T.b_law_tells .nil pass0 (pa_cons (pv 8) (pa_cons (pe_tup (pa_cons pe_str (pa_cons (pv 8) pa_nil))) (pa_cons pe_bl pa_nil))))))))) (pss_one (ps_ret pe_bl)) pss_nil)
    (pss_cons (ps_set (i := 9) sc_law.nd rfl (Or.inl rfl) (pe_call G_law_take (hr.mono (by omega)) rfl T.m_law_take T.F_law_take.kp T.b_law_take .nil pass0 (pa_cons (pv 1) (pa_cons (pe_op op_add (pv 6) pe_int) pa_nil))))
    (pss_cons (ps_set (i := 10) sc_law.nd rfl (Or.inl rfl) (pe_and (pe_cmpR op_lt (pv 9) (pv 6) (nomark _)) (pe_one (pe_cmpR op_gt (pe_ix ix_list (pe_lst (pa_cons pe_int (pa_cons pe_int (pa_cons pe_int (pa_cons pe_int pa_nil))))) (pe_op op_mod (pe_callTy call_int1 rfl T.n_int bo_int (pa_cons (pe_op op_add (pv 9) (pv 7)) pa_nil)) pe_int) (fun _ _ => rfl)) pe_int (nomark _)))))
    (pss_one (ps_ret (pe_call G_law_tells (hr.mono (by omega)) rfl T.m_law_tells T.F_law_tells.kp T.b_law_tells .nil pass0 (pa_cons (pv 8) (pa_cons (pe_call G_law_nested (hr.mono (by omega)) rfl T.m_law_nested T.F_law_nested.kp T.b_law_nested .nil pass0 (pa_cons (pv 2) (pa_cons (pv 6) (pa_cons (pv 7) (pa_cons (pv 9) pa_nil))))) (pa_cons (pe_not (pv 10)) pa_nil)))))))))))))))))))), ?_⟩
  -- the hand
  refine ⟨_, rfl, a, ns, 500, rfl, hS, h63, by decide, fun d H1 ds s1 nd ed ld bd' => ⟨by show 2 ≤ sizeLine; decide, fun h nh => ?_⟩⟩
  have hh : Hnd (upd H1 h (.lst [.ref d, .int 0])) h d ds := ⟨⟨0, upd_same, Int.le_refl 0⟩, by rw [upd_ne (ne_of_none ed nh)]; exact ed, ne_of_none ed nh, fun x hx => (bd' x hx).1⟩
  generalize (upd H1 h (.lst [.ref d, .int 0])) = H2 at hh ⊢
  -- the value
  refine ⟨_, rfl, _, rfl, h, d, ds, 5, rfl, hh, by decide, fun r H3 ra rb k3 hh3 => ?_⟩
  obtain ⟨r, rfl⟩ := Int.eq_ofNat_of_zero_le ra
  refine ⟨h, d, ds, r, rfl, by omega, hh3, fun t v H4 ok dp szv hv k4 hh4 => ?_⟩
  have e4 : bd 4 = 16105 := by decide
  have sz5 : t.size ≤ 16105 := by
    have := bd_mono (show r ≤ 4 by omega)
    omega
  -- the four others
  refine ⟨_, rfl, t, v, rfl, hv, ok, by omega, by omega, fun va H5 s5 ia => ?_⟩
  refine ⟨_, rfl, _, rfl, h, d, ds, 5, rfl, hh4.same s5, by decide, fun r5 H6 r5a r5b k6 hh6 => ?_⟩
  obtain ⟨r5, rfl⟩ := Int.eq_ofNat_of_zero_le r5a
  refine ⟨h, d, ds, r5, rfl, by omega, hh6, fun tb vb H7 okb dpb szb ib k7 hh7 => ?_⟩
  have szb5 : tb.size ≤ 16105 := by
    have := bd_mono (show r5 ≤ 4 by omega)
    omega
  have k67 := k6.trans k7
  have t47 : TK K H4 H7 := (TK.same s5).trans ((hh4.same s5).tk k67)
  refine ⟨_, rfl, _, rfl, h, d, ds, t, v, rfl, hh7, hv.tk t47, ok, by omega, by omega, fun tc vc H8 okc szc ic k8 hh8 => ?_⟩
  have t48 : TK K H4 H8 := t47.trans (hh7.tk k8)
  refine ⟨_, rfl, _, rfl, h, d, ds, t, v, rfl, hh8, hv.tk t48, ok, by omega, by omega, fun te ve H9 oke sze ie k9 hh9 => ⟨by show 4 ≤ sizeLine; decide, fun L nL => ?_⟩⟩
  have t9 : TK K H8 (upd H9 L (.lst [va, vb, vc, ve])) := (hh8.tk k9).trans (TK.new nL)
  have iv := (hv.tk t48).tk t9
  have ja := ((ia.tk ((hh4.same s5).tk k67)).tk (hh7.tk k8)).tk t9
  have jb := (ib.tk (hh7.tk k8)).tk t9
  have jc := ic.tk t9
  have je := ie.tk (TK.new (K := K) (o := .lst [va, vb, vc, ve]) nL)
  have hhL := hh9.new (o := .lst [va, vb, vc, ve]) nL
  have nLh := hh9.neH nL
  have eL : (upd H9 L (.lst [va, vb, vc, ve])) L = some (.lst [va, vb, vc, ve]) := upd_same
  generalize (upd H9 L (.lst [va, vb, vc, ve])) = H10 at iv ja jb jc je hhL eL ⊢
  -- the second
  refine ⟨_, rfl, _, rfl, h, d, ds, 4, rfl, hhL, by decide, fun r6 H11 r6a r6b k11 hh11 => ?_⟩
  obtain ⟨x, ex, hx⟩ := at4V (x := va) (y := vb) (z := vc) (u := ve) r6a r6b
  refine ⟨L, _, r6, x, rfl, rfl, SqL.of (k11 L _ nLh eL), ex, ?_⟩
  have t11 := hhL.tk (K := K) k11
  obtain ⟨t2, i2, ok2, sz2⟩ : ∃ t2 : Tr, IsT K H11 t2 x ∧ TOk t2 ∧ t2.size ≤ 17000 := by
    rcases hx with rfl | rfl | rfl | rfl
    · exact ⟨t, ja.tk t11, ok, by omega⟩
    · exact ⟨tb, jb.tk t11, okb, by omega⟩
    · exact ⟨tc, jc.tk t11, okc, by omega⟩
    · exact ⟨te, je.tk t11, oke, by omega⟩
  have S0 : Stn K H11 h d ds t t2 v x := ⟨hh11, iv.tk t11, i2⟩
  clear hx ex ja jb jc je iv ia ib ic ie
  -- are they the same?
  refine ⟨_, rfl, _, rfl, t2, t, x, v, rfl, S0.i2, S0.i1, by omega, fun H12 s12 => ?_⟩
  have S1 := S0.same s12
  have due : decide (t2 = t) = decide (t = t2) := decide_eq_decide.mpr eq_comm
  rw [due]
  refine ⟨_, rfl, _, rfl, _, rfl, t, t2, v, x, _, rfl, S1.i1, S1.i2, ok, ok2, by omega, by omega, rfl, fun H13 s13 => ⟨true, rfl, ?_⟩⟩
  have S2 := S1.same s13
  -- how deep
  refine ⟨_, rfl, h, d, ds, 30, rfl, S2.hh, by decide, fun n1 H14 n1a n1b k14 hh14 => ⟨_, rfl, h, d, ds, 190, rfl, hh14, by decide, fun n2 H15 n2a n2b k15 hh15 => ⟨by show 2 ≤ sizeLine; decide, fun M nM => ?_⟩⟩⟩
  have S3 := (S2.kp k14 hh14).kp k15 hh15
  have S4 := S3.same (same_new (o := .lst [.int n1, .int n2]) nM)
  have nMh := hh15.neH nM
  have eM : (upd H15 M (.lst [.int n1, .int n2])) M = some (.lst [.int n1, .int n2]) := upd_same
  generalize (upd H15 M (.lst [.int n1, .int n2])) = H16 at S4 eM ⊢
  refine ⟨_, rfl, h, d, ds, 2, rfl, S4.hh, by decide, fun n3 H17 n3a n3b k17 hh17 => ?_⟩
  obtain ⟨many, ea, hs⟩ := at2 (x := n1) (y := n2) n3a n3b
  have many0 : 0 ≤ many ∧ many < 190 := by omega
  refine ⟨M, _, n3, .int many, rfl, rfl, SqL.of (k17 M _ nMh eM), ea, ?_⟩
  have S5 := S4.kp k17 hh17
  refine ⟨_, rfl, h, d, ds, 4, rfl, S5.hh, by decide, fun kind H18 kia kib k18 hh18 => ?_⟩
  have S6 := S5.kp k18 hh18
  -- the first
  refine ⟨_, rfl, _, rfl, _, rfl, 1, rfl, t, v, many, kind, -1, rfl, S6.i1, by omega, by omega, by omega, by omega, fun v1 H19 s19 j1 => ?_⟩
  have S7 := S6.same s19
  have nok : ∀ {u : Tr} (_ : TOk u) (o : Int), TOk (nest kind o many.toNat u) := fun hu o => nest_ok hu _
  have nsz : ∀ (u : Tr) (o : Int), (nest kind o many.toNat u).size ≤ u.size + 400 := fun u o => by
    have := nest_size (kind := kind) (other := o) (t := u) many.toNat
    omega
  have zt := nsz t (-1)
  have zt2 := nsz t2 (-1)
  refine ⟨_, rfl, _, rfl, _, rfl, _, rfl, 1, rfl, t2, x, many, kind, -1, rfl, S7.i2, by omega, by omega, by omega, by omega, fun v2 H20 s20 j2 => ?_⟩
  refine ⟨_, rfl, nest kind (-1) many.toNat t, nest kind (-1) many.toNat t2, v1, v2, _, rfl, j1.tk (TK.same s20), j2, nok ok _, nok ok2 _, by omega, by omega, decide_eq_decide.mpr (nest_inj _).symm, fun H21 s21 => ⟨true, rfl, ?_⟩⟩
  have S8 := (S7.same s20).same s21
  have j1b := (j1.tk (TK.same (K := K) s20)).tk (TK.same s21)
  -- made anew
  refine ⟨_, rfl, _, rfl, t, v, rfl, S8.i1, ok, by omega, by omega, fun w1 H22 s22 jw => ?_⟩
  refine ⟨_, rfl, _, rfl, 1, rfl, t, w1, many, kind, -1, rfl, jw, by omega, by omega, by omega, by omega, fun v3 H23 s23 j3 => ?_⟩
  have j1c := (j1b.tk (TK.same (K := K) s22)).tk (TK.same s23)
  refine ⟨nest kind (-1) many.toNat t, nest kind (-1) many.toNat t, v1, v3, true, rfl, j1c, j3, nok ok _, nok ok _, by omega, by omega, (decide_eq_true rfl).symm, fun H24 s24 => ⟨true, rfl, ?_⟩⟩
  have S9 := ((S8.same s22).same s23).same s24
  have j1d := j1c.tk (TK.same (K := K) s24)
  -- one list more, one word more
  have w1ok : WOk ("a" : Str) := ⟨97, [], by decide +kernel, by decide +kernel, fun _ h => absurd h List.not_mem_nil, by decide⟩
  have ok1 : TOk (.l [nest kind (-1) many.toNat t]) := tok_l.mpr fun y hy => by rw [List.mem_singleton.mp hy]; exact nok ok _
  have ok2' : TOk (.l [.w "a", nest kind (-1) many.toNat t]) := tok_l.mpr fun y hy => by
    rcases List.mem_cons.mp hy with z | z
    · rw [z]; exact tok_w.mpr w1ok
    · rw [List.mem_singleton.mp z]; exact nok ok _
  have ne1 : nest kind (-1) many.toNat t ≠ .l [nest kind (-1) many.toNat t] := fun e => by
    have := congrArg Tr.size e
    simp only [Tr.size, Tr.sizes] at this; omega
  have ne2 : nest kind (-1) many.toNat t ≠ .l [.w "a", nest kind (-1) many.toNat t] := fun e => by
    have := congrArg Tr.size e
    simp only [Tr.size, Tr.sizes] at this; omega
  refine ⟨_, rfl, _, rfl, by show 1 ≤ sizeLine; decide, fun p np => ?_⟩
  have S10 := S9.same (same_new (o := .tup [v1]) np)
  have j1e := j1d.tk (TK.new (K := K) (o := .tup [v1]) np)
  have ip : IsT K (upd H24 p (.tup [v1])) (.l [nest kind (-1) many.toNat t]) (.ref p) := IsT.tup (SqT.of upd_same) (IsTs.one j1e)
  generalize (upd H24 p (.tup [v1])) = H25 at S10 j1e ip ⊢
  refine ⟨_, _, v1, _, false, rfl, j1e, ip, nok ok _, ok1, by omega, by simp only [Tr.size, Tr.sizes]; omega, (decide_eq_false ne1).symm, fun H26 s26 => ⟨true, rfl, ?_⟩⟩
  have S11 := S10.same s26
  have j1f := j1e.tk (TK.same (K := K) s26)
  refine ⟨_, rfl, _, rfl, by show 2 ≤ sizeLine; decide, fun p2 np2 => ?_⟩
  have S12 := S11.same (same_new (o := .tup [.str "a", v1]) np2)
  have j1g := j1f.tk (TK.new (K := K) (o := .tup [.str "a", v1]) np2)
  have ip2 : IsT K (upd H26 p2 (.tup [.str "a", v1])) (.l [.w "a", nest kind (-1) many.toNat t]) (.ref p2) := IsT.tup (SqT.of upd_same) (IsTs.cons IsT.str (IsTs.one j1g))
  generalize (upd H26 p2 (.tup [.str "a", v1])) = H27 at S12 j1g ip2 ⊢
  refine ⟨_, _, v1, _, false, rfl, j1g, ip2, nok ok _, ok2', by omega, by simp only [Tr.size, Tr.sizes]; omega, (decide_eq_false ne2).symm, fun H28 s28 => ⟨true, rfl, ?_⟩⟩
  have S13 := S12.same s28
  have j1h := j1g.tk (TK.same (K := K) s28)
  -- another word
  refine ⟨_, rfl, _, rfl, _, _, rfl, rfl, h, d, ds, many + 1, rfl, S13.hh, by omega, fun place H29 pa pb k29 hh29 => ?_⟩
  have S14 := S13.kp k29 hh29
  have j1i := j1h.tk (S13.hh.tk k29)
  have hb : ∀ b : Bool, b = (decide (place < many) && decide (0 < npl kind place.toNat)) → (!b) = decide (nest kind (-1) many.toNat t = nest kind place many.toNat t) := fun b e => by
    have no := nest_other (kind := kind) (other := place) (t := t) many.toNat
    by_cases hw : place < many ∧ 0 < npl kind place.toNat
    · rw [e, decide_eq_true hw.1, decide_eq_true hw.2]
      refine (decide_eq_false fun g => ?_).symm
      exact no.mp g.symm ⟨place.toNat, by omega, by omega, hw.2⟩
    · have eb : b = false := by
        rw [e]
        by_cases h1 : place < many
        · rw [decide_eq_true h1, decide_eq_false fun z => hw ⟨h1, z⟩]; rfl
        · rw [decide_eq_false h1]; rfl
      rw [eb]
      refine (decide_eq_true ?_).symm
      refine (no.mpr ?_).symm
      rintro ⟨i, i1, i2, i3⟩
      exact hw ⟨by omega, by rw [show place.toNat = i by omega]; exact i3⟩
  refine ⟨_, rfl, _, rfl, _, _, rfl, rfl, _, rfl, ?_⟩
  have last : ∀ (b : Bool) (Hx : Hp), b = (decide (place < many) && decide (0 < npl kind place.toNat)) → Same H29 Hx → ∀ (v5 : V) (Hy : Hp), Same Hx Hy → IsT K Hy (nest kind place many.toNat t) v5 → ∃ (t1 t2 : Tr) (v1' v2' : V) (due : Bool), [v1, v5, V.bl !b] = [v1', v2', .bl due] ∧ IsT K Hy t1 v1' ∧ IsT K Hy t2 v2' ∧ TOk t1 ∧ TOk t2 ∧ t1.size ≤ 399999 ∧ t2.size ≤ 399999 ∧ due = decide (t1 = t2) ∧ ∀ (H' : Hp), Same Hy H' → Q (.bl true) H' := fun b Hx e sx v5 Hy sy i5 =>
    ⟨_, _, v1, v5, _, rfl, (j1i.tk (TK.same sx)).tk (TK.same sy), i5, nok ok _, nok ok _, by omega, by have := nsz t place; omega, hb b e, fun H' _ => q H'⟩
  by_cases h1 : place < many
  · rw [decide_eq_true h1]
    have f0 := Int.emod_nonneg (place + kind) (show (4 : Int) ≠ 0 by decide)
    have f1 := Int.emod_lt_of_pos (place + kind) pos_4'
    have epl : atI [V.int 0, .int 1, .int 2, .int 0] ((place + kind) % 4) = some (.int (npl kind place.toNat)) := by
      unfold npl
      rw [show ((place.toNat : Nat) : Int) = place by omega]
      generalize (place + kind) % 4 = m at f0 f1
      have e : m = 0 ∨ m = 1 ∨ m = 2 ∨ m = 3 := by omega
      rcases e with rfl | rfl | rfl | rfl <;> rfl
    refine ⟨by show 4 ≤ sizeLine; decide, fun B nB => ⟨_, rfl, _, rfl, _, _, rfl, rfl, .inl ⟨_, rfl, _, _, rfl, rfl, pos_4', ?_⟩⟩⟩
    have sB := same_new (o := .lst [.int 0, .int 1, .int 2, .int 0]) nB
    refine ⟨B, _, _, _, rfl, rfl, SqL.of upd_same, epl, _, _, rfl, rfl, ?_⟩
    refine ⟨_, rfl, _, rfl, _, rfl, _, rfl, _, rfl, t, v, many, kind, place, rfl, S14.i1.tk (TK.same sB), by omega, by omega, by omega, by omega, fun v5 H30 s30 j5 => ⟨_, rfl, _, rfl, ?_⟩⟩
    refine last (decide (0 < npl kind place.toNat)) _ ?_ sB v5 H30 s30 j5
    rw [decide_eq_true h1]; rfl
  · rw [decide_eq_false h1]
    refine ⟨_, rfl, _, rfl, _, rfl, _, rfl, _, rfl, t, v, many, kind, place, rfl, S14.i1, by omega, by omega, by omega, by omega, fun v5 H30 s30 j5 => ⟨_, rfl, _, rfl, ?_⟩⟩
    refine last false _ ?_ (Same.refl H29) v5 H30 s30 j5
    rw [decide_eq_false h1]; rfl

theorem law_end {l : PySem.W.OpenLaw} {w : World} {K : PySem.W.Frag} {mg : Str → Option Value} {fa : Addr} (T : Top K mg) (hmg : mg "law" = some (.ref fa)) :
    ∃ fd : FuncData, (∀ (s : Shared) (u : Value), BindsTo s fd ⟨[u], []⟩ [("_law_script", u)]) ∧ ∀ base : Heap, K.In base → base.Ns mainGlobals mg → FnOk l.prog w K mg base CX0 8 fa fd ["_law_script"] (spLaw K) := by
  have e := hmg.symm.trans T.m_law
  cases e
  refine ⟨T.d_law, fun s v => ?_, fun base _ _ => ok_law T⟩
  obtain ⟨oc, od, kV, doc, pm, an, cdv, ct, osl, e, lk, hcd⟩ := T.F_law.ex
  rw [e]
  exact .of_eq rfl

theorem walk {l : PySem.W.OpenLaw} {q : Program} {loose : List Str} {XP : (Str → Option Value) → Heap → Prop} {YP : World → Heap → Prop} {d : DefRec} {K : Params → PySem.W.Frag} (hn : l.most = some 63) (hdf : d.params.defaults = [])
    (hY : ∀ (w : World) (h : Heap), YP w h → (K w.params).In h)
    (F : ∀ (w : World) (mg : Str → Option Value) (fa : Addr) (h : Heap), (K w.params).In h → h.Ns mainGlobals mg → mg d.name = some (.ref fa) →
      ∃ fd : FuncData, (∀ (s : Shared) (u : Value), BindsTo s fd ⟨[u], []⟩ [("_law_script", u)]) ∧ ∀ base : Heap, (K w.params).In base → base.Ns mainGlobals mg → FnOk l.prog w (K w.params) mg base CX0 8 fa fd ["_law_script"] (spLaw (K w.params))) :
    PySem.W.WalkO q loose XP YP l.row.toRowW d [] (fun f vs => PySem.call f vs) :=
  L2.walk_of (n := 63) (k := 8) (x := "_law_script") (CX := fun _ => CX0) (sp := fun w => spLaw (K w.params)) hn (by decide) hdf ⟨rfl, by decide, by decide⟩ hY F (fun _ _ a ns hl _ hS => ⟨a, ns, rfl, hS, hl, fun _ => rfl⟩) fun _ _ _ _ _ z => z
end K3
open PySem PySem.W PyProof.Rows
set_option maxRecDepth 100000 in
set_option maxHeartbeats 0 in
theorem PySem.Challenge.cw_ownglass_k03_same_values_holds : PySem.Challenge.rw_ownglass_k03_same_values.Holds := by
  w_on; o_law; k_head; (case hw => w_witness2)
  k_fill
  refine K3.walk (l := PySem.Challenge.rw_ownglass_k03_same_values) rfl rfl (fun w h Y => PySem.W.kIn_of Y) ?F
  case F =>
    intro w mg fa h KX G hmg
    refine K3.law_end ?T hmg
    refine' K3.all_mk KX G ?qa0 ?ql0 ?qc0 ?qk0 ?qa1 ?ql1 ?qc1 ?qk1 ?qa2 ?ql2 ?qc2 ?qk2 ?qa3 ?ql3 ?qc3 ?qk3 ?qa4 ?ql4 ?qc4 ?qk4 ?qa5 ?ql5 ?qc5 ?qk5 ?qa6 ?ql6 ?qc6 ?qk6 ?qa7 ?ql7 ?qc7 ?qk7 ?qa8 ?ql8 ?qc8 ?qk8 ?qa9 ?ql9 ?qc9 ?qk9 ?qa10 ?ql10 ?qc10 ?qk10 ?qz0 ?qz1 ?qz2 ?qz3 ?qz4 ?qz5 ?qz6 ?qz7 ?qz8 ?qz9
    (case qa0 => k_is)
    (case ql0 => k_is)
    (case qc0 => k_is)
    (case qk0 => k_is)
    (case qa1 => k_is)
    (case ql1 => k_is)
    (case qc1 => k_is)
    (case qk1 => k_is)
    (case qa2 => k_is)
    (case ql2 => k_is)
    (case qc2 => k_is)
    (case qk2 => k_is)
    (case qa3 => k_is)
    (case ql3 => k_is)
    (case qc3 => k_is)
    (case qk3 => k_is)
    (case qa4 => k_is)
    (case ql4 => k_is)
    (case qc4 => k_is)
    (case qk4 => k_is)
    (case qa5 => k_is)
    (case ql5 => k_is)
    (case qc5 => k_is)
    (case qk5 => k_is)
    (case qa6 => k_is)
    (case ql6 => k_is)
    (case qc6 => k_is)
    (case qk6 => k_is)
    (case qa7 => k_is)
    (case ql7 => k_is)
    (case qc7 => k_is)
    (case qk7 => k_is)
    (case qa8 => k_is)
    (case ql8 => k_is)
    (case qc8 => k_is)
    (case qk8 => k_is)
    (case qa9 => k_is)
    (case ql9 => k_is)
    (case qc9 => k_is)
    (case qk9 => k_is)
    (case qa10 => k_is)
    (case ql10 => k_is)
    (case qc10 => k_is)
    (case qk10 => k_is)
    (case qz0 => k_is)
    (case qz1 => k_is)
    (case qz2 => k_is)
    (case qz3 => k_is)
    (case qz4 => k_is)
    (case qz5 => k_is)
    (case qz6 => k_is)
    (case qz7 => k_is)
    (case qz8 => k_is)
    (case qz9 => k_is)
#print axioms PySem.Challenge.cw_ownglass_k03_same_values_holds

