import PyProof.Rows.All
import Wide.All
import OpenK.AllK
import Wide.FinOn
import HandS.ForMost
import HandS.IsInst
import HandS.TupAny
import HandS.TupLe
import HandS.Codes
import HandS.RevRange
import HandS.Style
import HandS.NoneIn

import PyProof.EqAt
import PyProof.EqKinds
import PyProof.TupleCall
import Open.SpecLaws
import KE.OsGo
import HandS.ForSpec
import HandS.ExcIs
import KE.KExcIs
import HandS.ExcValue
import PySem.Challenge.RW_ownglass_k02_the_place_where_a_text_is_w
set_option Elab.async false
set_option linter.all false
set_option maxRecDepth 100000
set_option maxHeartbeats 4000000
/-! ### trees: words and lists -/
namespace OG
open PySem L2
inductive Tr where
  | w (s : Str)
  | l (ts : List Tr)
namespace Tr
mutual
def size : Tr → Nat
  | .w _ => 1
  | .l ts => sizes ts + 1
def sizes : List Tr → Nat
  | [] => 0
  | t :: ts => t.size + sizes ts
end
mutual
def depth : Tr → Nat
  | .w _ => 0
  | .l ts => depths ts + 1
def depths : List Tr → Nat
  | [] => 0
  | t :: ts => max t.depth (depths ts)
end
mutual
def beq : Tr → Tr → Bool
  | .w s, .w t => decide (s = t)
  | .l xs, .l ys => beqs xs ys
  | .w _, .l _ => false
  | .l _, .w _ => false
def beqs : List Tr → List Tr → Bool
  | [], [] => true
  | x :: xs, y :: ys => x.beq y && beqs xs ys
  | [], _ :: _ => false
  | _ :: _, [] => false
end
mutual
theorem beq_iff : ∀ a b : Tr, a.beq b = true ↔ a = b
  | .w s, .w t => by simp [beq]
  | .l xs, .l ys => by simp [beq, beqs_iff xs ys]
  | .w _, .l _ => by simp [beq]
  | .l _, .w _ => by simp [beq]
theorem beqs_iff : ∀ a b : List Tr, beqs a b = true ↔ a = b
  | [], [] => by simp [beqs]
  | x :: xs, y :: ys => by simp [beqs, beq_iff x y, beqs_iff xs ys]
  | [], _ :: _ => by simp [beqs]
  | _ :: _, [] => by simp [beqs]
end
instance : DecidableEq Tr := fun a b => decidable_of_iff (a.beq b = true) (beq_iff a b)
theorem size_pos : ∀ t : Tr, 0 < t.size
  | .w _ => by simp [size]
  | .l _ => by simp [size]
theorem sizes_append : ∀ xs ys : List Tr, sizes (xs ++ ys) = sizes xs + sizes ys
  | [], _ => by simp [sizes]
  | x :: xs, ys => by simp [sizes, sizes_append xs ys]; omega
theorem length_le_sizes : ∀ ts : List Tr, ts.length ≤ sizes ts
  | [] => by simp [sizes]
  | t :: ts => by have := length_le_sizes ts; have := size_pos t; simp [sizes]; omega
theorem size_mem : ∀ {ts : List Tr} {t : Tr}, t ∈ ts → t.size ≤ sizes ts
  | [], _, h => by cases h
  | x :: xs, t, h => by
    rcases List.mem_cons.mp h with e | e
    · subst e; simp [sizes]
    · have := size_mem e; simp [sizes]; omega
theorem depth_mem : ∀ {ts : List Tr} {t : Tr}, t ∈ ts → t.depth ≤ depths ts
  | [], _, h => by cases h
  | x :: xs, t, h => by
    rcases List.mem_cons.mp h with e | e
    · subst e; simp [depths]; omega
    · have := depth_mem e; simp [depths]; omega
theorem depths_le : ∀ {ts : List Tr} {n : Nat}, (∀ t ∈ ts, t.depth ≤ n) → depths ts ≤ n
  | [], _, _ => by simp [depths]
  | x :: xs, n, h => by
    have h1 := h x List.mem_cons_self
    have h2 := depths_le (ts := xs) (n := n) fun t ht => h t (List.mem_cons_of_mem _ ht)
    simp [depths]; omega
theorem sizes_le : ∀ {ts : List Tr} {n : Nat}, (∀ t ∈ ts, t.size ≤ n) → sizes ts ≤ ts.length * n
  | [], _, _ => by simp [sizes]
  | x :: xs, n, h => by
    have h1 := h x List.mem_cons_self
    have h2 := sizes_le (ts := xs) (n := n) fun t ht => h t (List.mem_cons_of_mem _ ht)
    simp only [sizes, List.length_cons, Nat.add_mul]; omega
end Tr
/-! ### a value that is a tree -/
mutual
def IsT (K : PySem.W.Frag) (H : Hp) : Tr → V → Prop
  | .w s, v => v = .str s
  | .l ts, v => ∃ a vs, v = .ref a ∧ SqT K H a vs ∧ IsTs K H ts vs
def IsTs (K : PySem.W.Frag) (H : Hp) : List Tr → List V → Prop
  | [], vs => vs = []
  | t :: ts, vs => ∃ v r, vs = v :: r ∧ IsT K H t v ∧ IsTs K H ts r
end
section
variable {K : PySem.W.Frag} {H H' : Hp}
theorem isT_w {s : Str} {v : V} : IsT K H (.w s) v ↔ v = .str s := by simp [IsT]
theorem isT_l {ts : List Tr} {v : V} : IsT K H (.l ts) v ↔ ∃ a vs, v = .ref a ∧ SqT K H a vs ∧ IsTs K H ts vs := by simp [IsT]
theorem isTs_nil {vs : List V} : IsTs K H [] vs ↔ vs = [] := by simp [IsTs]
theorem isTs_cons {t : Tr} {ts : List Tr} {vs : List V} : IsTs K H (t :: ts) vs ↔ ∃ v r, vs = v :: r ∧ IsT K H t v ∧ IsTs K H ts r := by simp [IsTs]
/-- what holds tuples goes on holding them -/
def TK (K : PySem.W.Frag) (H H' : Hp) : Prop := ∀ a xs, SqT K H a xs → SqT K H' a xs
theorem TK.refl : TK K H H := fun _ _ h => h
theorem TK.trans {H1 H2 : Hp} (a : TK K H H1) (b : TK K H1 H2) : TK K H H2 := fun x xs h => b x xs (a x xs h)
mutual
theorem IsT.tk (k : TK K H H') : ∀ {t : Tr} {v : V}, IsT K H t v → IsT K H' t v
  | .w s, v, h => isT_w.mpr (isT_w.mp h)
  | .l ts, v, h => by
    obtain ⟨a, vs, e, s, r⟩ := isT_l.mp h
    exact isT_l.mpr ⟨a, vs, e, k a vs s, IsTs.tk k r⟩
theorem IsTs.tk (k : TK K H H') : ∀ {ts : List Tr} {vs : List V}, IsTs K H ts vs → IsTs K H' ts vs
  | [], vs, h => isTs_nil.mpr (isTs_nil.mp h)
  | t :: ts, vs, h => by
    obtain ⟨v, r, e, h1, h2⟩ := isTs_cons.mp h
    exact isTs_cons.mpr ⟨v, r, e, IsT.tk k h1, IsTs.tk k h2⟩
end
theorem IsTs.length : ∀ {ts : List Tr} {vs : List V}, IsTs K H ts vs → vs.length = ts.length
  | [], vs, h => by rw [isTs_nil.mp h]; rfl
  | t :: ts, vs, h => by
    obtain ⟨v, r, rfl, _, h2⟩ := isTs_cons.mp h
    simp [IsTs.length h2]
theorem IsTs.get : ∀ {ts : List Tr} {vs : List V} {i : Nat} {t : Tr}, IsTs K H ts vs → ts[i]? = some t → ∃ v, vs[i]? = some v ∧ IsT K H t v
  | [], _, _, _, _, e => by simp at e
  | t :: ts, vs, 0, t', h, e => by
    obtain ⟨v, r, rfl, h1, _⟩ := isTs_cons.mp h
    simp at e; subst e
    exact ⟨v, by simp, h1⟩
  | t :: ts, vs, i + 1, t', h, e => by
    obtain ⟨v, r, rfl, _, h2⟩ := isTs_cons.mp h
    obtain ⟨u, e1, e2⟩ := IsTs.get (i := i) h2 (by simpa using e)
    exact ⟨u, by simpa using e1, e2⟩
theorem IsTs.tree {ts : List Tr} {vs : List V} {i : Nat} {v : V} (h : IsTs K H ts vs) (e : vs[i]? = some v) : ∃ t, ts[i]? = some t ∧ IsT K H t v := by
  have hi : i < ts.length := by rw [← h.length]; exact (List.getElem?_eq_some_iff.mp e).1
  obtain ⟨u, e1, e2⟩ := h.get (List.getElem?_eq_getElem hi)
  rw [e] at e1; cases e1
  exact ⟨_, List.getElem?_eq_getElem hi, e2⟩
theorem IsTs.append : ∀ {ts us : List Tr} {vs ws : List V}, IsTs K H ts vs → IsTs K H us ws → IsTs K H (ts ++ us) (vs ++ ws)
  | [], us, vs, ws, h, h' => by rw [isTs_nil.mp h]; exact h'
  | t :: ts, us, vs, ws, h, h' => by
    obtain ⟨v, r, rfl, h1, h2⟩ := isTs_cons.mp h
    exact isTs_cons.mpr ⟨v, r ++ ws, rfl, h1, IsTs.append h2 h'⟩
theorem IsTs.one {t : Tr} {v : V} (h : IsT K H t v) : IsTs K H [t] [v] := isTs_cons.mpr ⟨v, [], rfl, h, isTs_nil.mpr rfl⟩
theorem IsTs.cons {t : Tr} {v : V} {ts : List Tr} {vs : List V} (h : IsT K H t v) (h' : IsTs K H ts vs) : IsTs K H (t :: ts) (v :: vs) := isTs_cons.mpr ⟨v, vs, rfl, h, h'⟩
theorem IsTs.nil : IsTs K H [] [] := isTs_nil.mpr rfl
theorem IsTs.snoc {t : Tr} {v : V} {ts : List Tr} {vs : List V} (h : IsTs K H ts vs) (h' : IsT K H t v) : IsTs K H (ts ++ [t]) (vs ++ [v]) := h.append (.one h')
theorem IsTs.drop : ∀ {ts : List Tr} {vs : List V} (n : Nat), IsTs K H ts vs → IsTs K H (ts.drop n) (vs.drop n)
  | _, _, 0, h => h
  | [], vs, n + 1, h => by rw [isTs_nil.mp h]; simpa using IsTs.nil
  | t :: ts, vs, n + 1, h => by
    obtain ⟨v, r, rfl, _, h2⟩ := isTs_cons.mp h
    exact IsTs.drop n h2
theorem IsTs.take : ∀ {ts : List Tr} {vs : List V} (n : Nat), IsTs K H ts vs → IsTs K H (ts.take n) (vs.take n)
  | _, _, 0, _ => by simpa using IsTs.nil
  | [], vs, n + 1, h => by rw [isTs_nil.mp h]; simpa using IsTs.nil
  | t :: ts, vs, n + 1, h => by
    obtain ⟨v, r, rfl, h1, h2⟩ := isTs_cons.mp h
    exact isTs_cons.mpr ⟨v, r.take n, rfl, h1, IsTs.take n h2⟩
theorem IsT.str {s : Str} : IsT K H (.w s) (.str s) := isT_w.mpr rfl
theorem IsT.tup {ts : List Tr} {a : Addr} {vs : List V} (h : SqT K H a vs) (h' : IsTs K H ts vs) : IsT K H (.l ts) (.ref a) := isT_l.mpr ⟨a, vs, rfl, h, h'⟩
end
/-! ### what may change -/
/-- what stood stands, but at S -/
def Kp (S : Addr → Prop) (H H' : Hp) : Prop := ∀ a o, ¬ S a → H a = some o → H' a = some o
abbrev No : Addr → Prop := fun _ => False
section
variable {S S' : Addr → Prop} {H H' H1 H2 : Hp} {p a : Addr} {o : HO} {K : PySem.W.Frag}
theorem Kp.refl : Kp S H H := fun _ _ _ h => h
theorem Kp.trans (a : Kp S H H1) (b : Kp S H1 H2) : Kp S H H2 := fun x o n h => b x o n (a x o n h)
theorem Kp.same (h : Kp No H H') : Same H H' := fun a o e => h a o (fun z => z) e
theorem Kp.of (h : Same H H') : Kp S H H' := fun a o _ e => h a o e
theorem Kp.mono (h : Kp S H H') (m : ∀ a, S a → S' a) : Kp S' H H' := fun a o n e => h a o (fun z => n (m a z)) e
theorem Kp.new (k : Kp S H H') (h : H' p = none) : Kp S H (upd H' p o) := fun a u n e => by
  have e' := k a u n e
  rw [upd_ne (ne_of_none e' h)]; exact e'
/-- an object that was not there, or that may change -/
theorem Kp.put (k : Kp S H H') (h : S p ∨ H p = none) : Kp S H (upd H' p o) := fun a u n e => by
  have na : a ≠ p := by
    rintro rfl
    rcases h with h | h
    · exact n h
    · rw [e] at h; cases h
  rw [upd_ne na]; exact k a u n e
theorem Kp.fresh (k : Kp S H H') (n : ¬ S p) (h : H' p = none) : H p = none := by
  cases q : H p with
  | none => rfl
  | some u => rw [k p u n q] at h; cases h
theorem TK.new (h : H p = none) : TK K H (upd H p o) := fun a xs e => by
  rcases e with (e | ⟨ob, e⟩) | e
  · exact .inl (.inl (by rw [upd_ne (ne_of_none e h)]; exact e))
  · exact .inl (.inr ⟨ob, by rw [upd_ne (ne_of_none e h)]; exact e⟩)
  · exact .inr e
theorem Mut.notT {xs : List V} {ob : Obj} (m : Mut (H a)) : H a ≠ some (.tup xs) ∧ H a ≠ some (.frz ob (.tup xs)) := by
  constructor <;> (intro e; rw [e] at m; exact m)
theorem TK.put (m : Mut (H p)) : TK K H (upd H p o) := fun a xs e => by
  rcases e with (e | ⟨ob, e⟩) | e
  · exact .inl (.inl (by rw [upd_ne (by rintro rfl; rw [e] at m; exact m)]; exact e))
  · exact .inl (.inr ⟨ob, by rw [upd_ne (by rintro rfl; rw [e] at m; exact m)]; exact e⟩)
  · exact .inr e
theorem TK.kp (k : Kp S H H') (m : ∀ a, S a → Mut (H a)) : TK K H H' := fun a xs e => by
  rcases e with (e | ⟨ob, e⟩) | e
  · exact .inl (.inl (k a _ (fun z => by have q := m a z; rw [e] at q; exact q) e))
  · exact .inl (.inr ⟨ob, k a _ (fun z => by have q := m a z; rw [e] at q; exact q) e⟩)
  · exact .inr e
theorem TK.same (k : Same H H') : TK K H H' := TK.kp (S := No) (Kp.of k) fun _ z => z.elim
theorem same_new (h : H p = none) : Same H (upd H p o) := fun b u q => by rw [upd_ne (ne_of_none q h)]; exact q
theorem mut_lst {xs : List V} (e : H a = some (.lst xs)) : Mut (H a) := by rw [e]; trivial
end
theorem sz {n : Nat} (h : n ≤ 1000000) : n ≤ sizeLine := Nat.le_trans h (by decide)
theorem szl {n : Nat} (h : n ≤ 1000000) : n < sizeLine := Nat.lt_of_le_of_lt h (by decide)
/-! ### tuples of trees: made, joined, cut -/
section
variable {K : PySem.W.Frag} {H : Hp} {Q : VK}
theorem newT {ts : List Tr} {vs : List V} (h : IsTs K H ts vs) (q : ∀ (v : V) (H' : Hp), Same H H' → IsT K H' (.l ts) v → Q v H') : ∀ p, H p = none → Q (.ref p) (upd H p (.tup vs)) := fun p np =>
  q _ _ (same_new np) (IsT.tup (SqT.of upd_same) (h.tk (TK.new np)))
theorem catA {as bs : List Tr} {u v : V} (ha : IsT K H (.l as) u) (hb : IsT K H (.l bs) v) (hz : as.length + bs.length ≤ 1000000) (q : ∀ (v : V) (H' : Hp), Same H H' → IsT K H' (.l (as ++ bs)) v → Q v H') : rCatA K u v H Q := by
  obtain ⟨a, us, rfl, sa, ia⟩ := isT_l.mp ha
  obtain ⟨b, vs, rfl, sb, ib⟩ := isT_l.mp hb
  have la := ia.length
  have lb := ib.length
  refine ⟨a, b, us, vs, rfl, rfl, sa, sb, sz (by omega), fun e => ?_, fun _ e => ?_, fun _ _ => newT (ia.append ib) q⟩
  · subst e
    have : as = [] := List.eq_nil_of_length_eq_zero (by rw [← la]; rfl)
    subst this
    exact q _ _ (Same.refl H) hb
  · subst e
    have : bs = [] := List.eq_nil_of_length_eq_zero (by rw [← lb]; rfl)
    subst this
    exact q _ _ (Same.refl H) (by rw [List.append_nil]; exact ha)
def cutT (as : List Tr) (lo hi : Option Int) : List Tr := (as.drop (HT.sIx as.length 0 lo)).take (HT.sIx as.length as.length hi - HT.sIx as.length 0 lo)
theorem slA {as : List Tr} {u : V} {lo hi : Option Int} (ha : IsT K H (.l as) u) (q : ∀ (v : V) (H' : Hp), Same H H' → IsT K H' (.l (cutT as lo hi)) v → Q v H') : rSlA K u lo hi H Q := by
  obtain ⟨a, us, rfl, sa, ia⟩ := isT_l.mp ha
  have la := ia.length
  refine ⟨a, us, rfl, sa, fun e => ?_, fun _ => newT ?_ q⟩
  · rw [la] at e
    refine q _ _ (Same.refl H) ?_
    unfold cutT
    rw [e.1, e.2]
    simpa using ha
  · unfold cutT cutV
    rw [la]
    exact (ia.drop _).take _
theorem cutT_drop {as : List Tr} {n : Nat} (h : n ≤ as.length) : cutT as (some (n : Int)) none = as.drop n := by
  unfold cutT
  rw [HT.sIx_nat, HT.sIx_none, Nat.min_eq_left h, List.take_of_length_le (by rw [List.length_drop]; exact Nat.le_refl _)]
theorem cutT_take {as : List Tr} {n : Nat} (h : n ≤ as.length) : cutT as none (some (n : Int)) = as.take n := by
  unfold cutT
  rw [HT.sIx_nat, HT.sIx_none, Nat.min_eq_left h, Nat.sub_zero, List.drop_zero]
end
theorem atI_of {α : Type} {xs : List α} {i : Int} {v : α} (h0 : 0 ≤ i) (h : xs[i.toNat]? = some v) : atI xs i = some v := by
  have e : i = (i.toNat : Int) := by omega
  rw [e]
  exact atI_nat h
theorem atI_map {xs : List Int} {i : Int} (h0 : 0 ≤ i) (h : i.toNat < xs.length) : atI (xs.map V.int) i = some (.int xs[i.toNat]) :=
  atI_of h0 (by rw [List.getElem?_map, List.getElem?_eq_getElem h]; rfl)
theorem ixN_of {n : Nat} {i : Int} (h0 : 0 ≤ i) (h : i.toNat < n) : ixN n i = some i.toNat := by
  unfold ixN
  rw [if_pos h0, if_pos (by omega)]
theorem last_of (xs : List V) (v : V) : (xs ++ [v])[(xs ++ [v]).length - 1]? = some v := by simp
theorem paired_last {α β : Type} {F : α → β → Prop} : ∀ {as : List α} {bs : List β}, Paired F as bs → 0 < bs.length → ∃ as' a bs' b, as = as' ++ [a] ∧ bs = bs' ++ [b] ∧ Paired F as' bs' ∧ F a b
  | _, _, .nil, h => absurd h (Nat.lt_irrefl _)
  | _, _, .cons (a := a) (b := b) f .nil, _ => ⟨[], a, [], b, rfl, rfl, .nil, f⟩
  | _, _, .cons (a := a) (b := b) f (.cons g t), _ => by
    obtain ⟨as', x, bs', y, e1, e2, p, q⟩ := paired_last (.cons g t) (Nat.succ_pos _)
    exact ⟨a :: as', x, b :: bs', y, by rw [e1]; rfl, by rw [e2]; rfl, .cons f p, q⟩
theorem paired_snoc {α β : Type} {F : α → β → Prop} {as : List α} {bs : List β} {a : α} {b : β} (h : Paired F as bs) (f : F a b) : Paired F (as ++ [a]) (bs ++ [b]) := Paired.snoc h f
theorem paired_mono {α β : Type} {F G : α → β → Prop} (m : ∀ a b, F a b → G a b) : ∀ {as : List α} {bs : List β}, Paired F as bs → Paired G as bs
  | _, _, .nil => .nil
  | _, _, .cons f t => .cons (m _ _ f) (paired_mono m t)
theorem paired_app {α β : Type} {F : α → β → Prop} {as' : List α} {bs' : List β} : ∀ {as : List α} {bs : List β}, Paired F as bs → Paired F as' bs' → Paired F (as ++ as') (bs ++ bs')
  | _, _, .nil, h => h
  | _, _, .cons f t, h => .cons f (paired_app t h)
theorem paired_len {α β : Type} {F : α → β → Prop} {as : List α} {bs : List β} (h : Paired F as bs) : as.length = bs.length := Paired.length h
/-- isinstance(x, str | tuple) of trees -/
theorem kty {K : PySem.W.Frag} {a b : String} {r : Bool} (h : kitB a b = some r) : PySem.W.kitOne K (.type a) (.type b) = some r := kit_ty h
theorem k_ss : kitB "str" "str" = some true := by decide +kernel
theorem k_ts : kitB "tuple" "str" = some false := by decide +kernel
theorem k_st : kitB "str" "tuple" = some false := by decide +kernel
theorem k_tt : kitB "tuple" "tuple" = some true := by decide +kernel
theorem tyX_str {K : PySem.W.Frag} {H : Hp} {s : Str} : TyX K H (.str s) (.type "str") := .base (.str s)
theorem tyX_tup {K : PySem.W.Frag} {H : Hp} {a : Addr} {xs : List V} (h : SqT K H a xs) : TyX K H (.ref a) (.type "tuple") := by
  rcases h with (h | ⟨o, h⟩) | ⟨o, its, n, h, c, _⟩
  · exact .base (.tup h)
  · exact .fTuple h
  · exact .kTuple h c
/-- an if whose test's answer is told, the heap as it was -/
theorem if_b {c : TT} {t u : TS} {D : Ends} {σ : L2.St} {H : Hp} (b : Bool) (h : ∀ Qb : Bool → Hp → Prop, Qb b H → c σ H Qb) (q1 : b = true → t D σ H) (q2 : b = false → u D σ H) : tIfS c t u D σ H := by
  refine h _ ?_
  cases b with
  | true => exact q1 rfl
  | false => exact q2 rfl
theorem noSp {P : Program} {w : World} {K : PySem.W.Frag} {mg : Str → Option Value} {base : Heap} {f : Addr} {fd : FuncData} {ps : List Str} {sp : Sp} {k : Nat} {CX : CXT} (no : ∀ vs H Q E, ¬ sp vs H Q E) : FnOk P w K mg base CX k f fd ps sp :=
  ⟨fun vs H Q E h => absurd h (no vs H Q E), fun A outer s H args us vs Q E _ _ _ _ h => absurd h (no vs H Q E)⟩
theorem at4V {x y z u : V} {r : Int} (h0 : 0 ≤ r) (h1 : r < 4) : ∃ v, atI [x, y, z, u] r = some v ∧ (v = x ∨ v = y ∨ v = z ∨ v = u) := by
  have e : r = 0 ∨ r = 1 ∨ r = 2 ∨ r = 3 := by omega
  rcases e with rfl | rfl | rfl | rfl
  · exact ⟨x, rfl, .inl rfl⟩
  · exact ⟨y, rfl, .inr (.inl rfl)⟩
  · exact ⟨z, rfl, .inr (.inr (.inl rfl))⟩
  · exact ⟨u, rfl, .inr (.inr (.inr rfl))⟩
theorem bo_len : bootBuiltins "len" = some (.builtin "len") := PySem.boot_len
theorem bo_abs : bootBuiltins "abs" = some (.builtin "abs") := by decide +kernel
theorem bo_isinstance : bootBuiltins "isinstance" = some (.builtin "isinstance") := by decide +kernel
theorem bo_int : bootBuiltins "int" = some (.type "int") := by decide +kernel
theorem bo_str : bootBuiltins "str" = some (.type "str") := by decide +kernel
theorem bo_tuple : bootBuiltins "tuple" = some (.type "tuple") := by decide +kernel
theorem bo_list : bootBuiltins "list" = some (.type "list") := by decide +kernel
theorem bo_bool : bootBuiltins "bool" = some (.type "bool") := by decide +kernel
theorem bo_dict : bootBuiltins "dict" = some (.type "dict") := by decide +kernel
theorem bo_min : bootBuiltins "min" = some (.builtin "min") := by decide +kernel
theorem bo_max : bootBuiltins "max" = some (.builtin "max") := by decide +kernel
theorem bo_repr : bootBuiltins "repr" = some (.builtin "repr") := by decide +kernel
/-! ### the hand: a list of the draws (at d: ds) and a place -/
structure Hnd (H : Hp) (h d : Addr) (ds : List Int) : Prop where
  at_ : ∃ i : Int, H h = some (.lst [.ref d, .int i]) ∧ 0 ≤ i
  dr : H d = some (.lst (ds.map V.int))
  ne : d ≠ h
  nn : ∀ x ∈ ds, 0 ≤ x
abbrev At (h : Addr) : Addr → Prop := fun a => a = h
section
variable {S : Addr → Prop} {H H' H0 : Hp} {h d p : Addr} {ds : List Int} {o : HO} {K : PySem.W.Frag}
theorem Hnd.mut (x : Hnd H h d ds) : ∀ a, At h a → Mut (H a) := by
  rintro a rfl
  obtain ⟨i, e, _⟩ := x.at_
  rw [e]; trivial
theorem Hnd.tk (x : Hnd H h d ds) (k : Kp (At h) H H') : TK K H H' := TK.kp k x.mut
theorem Hnd.new (x : Hnd H h d ds) (n : H p = none) : Hnd (upd H p o) h d ds := by
  obtain ⟨⟨i, e, i0⟩, e2, ne, nn⟩ := x
  exact ⟨⟨i, by rw [upd_ne (ne_of_none e n)]; exact e, i0⟩, by rw [upd_ne (ne_of_none e2 n)]; exact e2, ne, nn⟩
theorem Hnd.same (x : Hnd H h d ds) (k : Same H H') : Hnd H' h d ds := by
  obtain ⟨⟨i, e, i0⟩, e2, ne, nn⟩ := x
  exact ⟨⟨i, k _ _ e, i0⟩, k _ _ e2, ne, nn⟩
theorem Hnd.neH (x : Hnd H h d ds) (n : H p = none) : p ≠ h := by
  obtain ⟨⟨i, e, _⟩, _⟩ := x
  rintro rfl
  rw [e] at n; cases n
theorem Hnd.neD (x : Hnd H h d ds) (n : H p = none) : p ≠ d := by
  obtain ⟨_, e, _, _⟩ := x
  rintro rfl
  rw [e] at n; cases n
/-- an object other than the hand's two is changed -/
theorem Hnd.put (x : Hnd H h d ds) (n1 : p ≠ h) (n2 : p ≠ d) : Hnd (upd H p o) h d ds := by
  obtain ⟨⟨i, e, i0⟩, e2, ne, nn⟩ := x
  exact ⟨⟨i, by rw [upd_ne n1.symm]; exact e, i0⟩, by rw [upd_ne n2.symm]; exact e2, ne, nn⟩
end
end OG

/-! ### == of trees -/
namespace OG
open PySem L2
mutual
def pd : Tr → PyData
  | .w s => .str s
  | .l ts => .tuple (pds ts)
def pds : List Tr → List PyData
  | [] => []
  | t :: ts => pd t :: pds ts
end
/-- the words' signs are signs -/
abbrev sw (s : Str) : Bool := PyData.strOk s
mutual
def Tr.sok : Tr → Bool
  | .w s => sw s
  | .l ts => Tr.soks ts
def Tr.soks : List Tr → Bool
  | [] => true
  | t :: ts => t.sok && Tr.soks ts
end
theorem Tr.soks_iff : ∀ {ts : List Tr}, Tr.soks ts = true ↔ ∀ t ∈ ts, t.sok = true
  | [] => by simp [Tr.soks]
  | t :: ts => by simp [Tr.soks, Tr.soks_iff (ts := ts)]
theorem Tr.sok_l {ts : List Tr} : (Tr.l ts).sok = true ↔ ∀ t ∈ ts, t.sok = true := by simp only [Tr.sok]; exact Tr.soks_iff
theorem sw_app {s t : Str} : sw (s ++ t) = (sw s && sw t) := by
  show (s.cps ++ t.cps).all _ = (s.cps.all _ && t.cps.all _)
  rw [Array.all_append]
mutual
theorem pd_lay : ∀ t : Tr, t.sok = true → (pd t).canLay0 = true
  | .w s, h => by simp only [Tr.sok] at h; simp only [pd, PyData.canLay0]; exact h
  | .l ts, h => by simp only [Tr.sok] at h; simp only [pd, PyData.canLay0]; exact pds_lay ts h
theorem pds_lay : ∀ ts : List Tr, Tr.soks ts = true → PyData.canLayAll0 (pds ts) = true
  | [], _ => by simp [pds, PyData.canLayAll0]
  | t :: ts, h => by
    simp only [Tr.soks, Bool.and_eq_true] at h
    simp only [pds, PyData.canLayAll0]; rw [pd_lay t h.1, pds_lay ts h.2]; rfl
end
mutual
theorem pd_depth : ∀ t : Tr, (pd t).depth = t.depth
  | .w s => by simp [pd, PyData.depth, Tr.depth]
  | .l ts => by simp only [pd, PyData.depth, Tr.depth]; rw [pds_depth ts]
theorem pds_depth : ∀ ts : List Tr, PyData.depthAll (pds ts) = Tr.depths ts
  | [] => by simp [pds, PyData.depthAll, Tr.depths]
  | t :: ts => by simp only [pds, PyData.depthAll, Tr.depths]; rw [pd_depth t, pds_depth ts]
end
mutual
theorem pd_eqv : ∀ a b : Tr, PyData.eqv (pd a) (pd b) = a.beq b
  | .w s, .w t => by
    simp only [pd, PyData.eqv, Tr.beq]
    rw [Bool.eq_iff_iff]; simp
  | .l xs, .l ys => by simp only [pd, PyData.eqv, Tr.beq]; exact pds_eqv xs ys
  | .w _, .l _ => by simp [pd, PyData.eqv, Tr.beq]
  | .l _, .w _ => by simp [pd, PyData.eqv, Tr.beq]
theorem pds_eqv : ∀ as bs : List Tr, PyData.eqvAll (pds as) (pds bs) = Tr.beqs as bs
  | [], [] => by simp [pds, PyData.eqvAll, Tr.beqs]
  | x :: xs, y :: ys => by simp only [pds, PyData.eqvAll, Tr.beqs]; rw [pd_eqv x y, pds_eqv xs ys]
  | [], _ :: _ => by simp [pds, PyData.eqvAll, Tr.beqs]
  | _ :: _, [] => by simp [pds, PyData.eqvAll, Tr.beqs]
end
theorem pd_dec (a b : Tr) : PyData.eqv (pd a) (pd b) = decide (a = b) := by
  rw [pd_eqv, Bool.eq_iff_iff, Tr.beq_iff]; simp
mutual
theorem IsT.dp {K : PySem.W.Frag} {H : Hp} : ∀ {t : Tr} {v : V}, IsT K H t v → Dp K H v (pd t)
  | .w s, v, h => by rw [isT_w.mp h]; exact Dp.str s
  | .l ts, v, h => by
    obtain ⟨a, vs, rfl, s, r⟩ := isT_l.mp h
    exact Dp.tup s (IsTs.dp r)
theorem IsTs.dp {K : PySem.W.Frag} {H : Hp} : ∀ {ts : List Tr} {vs : List V}, IsTs K H ts vs → DpAll K H vs (pds ts)
  | [], vs, h => by rw [isTs_nil.mp h]; exact DpAll.nil
  | t :: ts, vs, h => by
    obtain ⟨v, r, rfl, h1, h2⟩ := isTs_cons.mp h
    exact DpAll.cons (IsT.dp h1) (IsTs.dp h2)
end
theorem un2 {k : Nat} {A : Around} (r : Room k A) : A.units + 200 < cLine := by have := r.un; omega
def rEqT (K : PySem.W.Frag) : R2 := fun x y H Q => ∃ a b : Tr, IsT K H a x ∧ IsT K H b y ∧ a.sok = true ∧ b.sok = true ∧ min a.depth b.depth ≤ 200 ∧ Q (.bl (decide (a = b))) H
def rNeT (K : PySem.W.Frag) : R2 := fun x y H Q => ∃ a b : Tr, IsT K H a x ∧ IsT K H b y ∧ a.sok = true ∧ b.sok = true ∧ min a.depth b.depth ≤ 200 ∧ Q (.bl (!decide (a = b))) H
theorem op_eqT {X : Cx} (hu : X.A.units + 200 < cLine) : OpR X (compareOp .Eq) (rEqT X.K) := by
  intro pins s σ H x y v u Q I rx ry h
  obtain ⟨a, b, ha, hb, sa, sb, hd, q⟩ := h
  obtain ⟨as, r1⟩ := Dp.reads I _ x v ha.dp rx
  obtain ⟨bs, r2⟩ := Dp.reads I _ y u hb.dp ry
  refine SeqAt.compareEq_reads r1 r2 (pd_lay a sa) (pd_lay b sb) (by rw [pd_depth, pd_depth]; omega) ?_
  rw [pd_dec]; exact ⟨.bl _, H, I, rfl, q⟩
theorem op_neT {X : Cx} (hu : X.A.units + 200 < cLine) : OpR X (compareOp .NotEq) (rNeT X.K) := by
  intro pins s σ H x y v u Q I rx ry h
  obtain ⟨a, b, ha, hb, sa, sb, hd, q⟩ := h
  obtain ⟨as, r1⟩ := Dp.reads I _ x v ha.dp rx
  obtain ⟨bs, r2⟩ := Dp.reads I _ y u hb.dp ry
  refine SeqAt.compareNe_reads r1 r2 (pd_lay a sa) (pd_lay b sb) (by rw [pd_depth, pd_depth]; omega) ?_
  rw [pd_dec]; exact ⟨.bl _, H, I, rfl, q⟩
theorem slen (z : Str) : z.cps.toList.length = z.length := by
  show z.cps.toList.length = z.cps.size
  simp
end OG

/-! ### texts of trees: what is written, what is read -/
namespace OG
open PySem L2
def lowS : Str := "abcdefghijklmnopqrstuvwxyz"
def figS : Str := "0123456789"
def betS : Str := " \n"
def low (c : Nat) : Bool := decide (c ∈ lowS.cps.toList)
def alnum (c : Nat) : Bool := decide (c ∈ (lowS ++ figS).cps.toList)
def bet (c : Nat) : Bool := decide (c ∈ betS.cps.toList)
theorem low_alnum {c : Nat} (h : low c = true) : alnum c = true := by
  have e : (lowS ++ figS).cps.toList = lowS.cps.toList ++ figS.cps.toList := by
    show (lowS.cps ++ figS.cps).toList = _
    simp
  unfold alnum low at *
  rw [e]
  exact decide_eq_true (List.mem_append_left _ (of_decide_eq_true h))
theorem alnum_facts : ∀ c ∈ (lowS ++ figS).cps.toList, bet c = false ∧ c ≠ 40 ∧ c ≠ 41 := by decide +kernel
theorem alnum_bet {c : Nat} (h : alnum c = true) : bet c = false := (alnum_facts c (of_decide_eq_true h)).1
theorem alnum_40 {c : Nat} (h : alnum c = true) : c ≠ 40 := (alnum_facts c (of_decide_eq_true h)).2.1
theorem alnum_41 {c : Nat} (h : alnum c = true) : c ≠ 41 := (alnum_facts c (of_decide_eq_true h)).2.2
theorem bet_facts : ∀ c ∈ betS.cps.toList, alnum c = false := by decide +kernel
theorem bet_alnum {c : Nat} (h : bet c = true) : alnum c = false := bet_facts c (of_decide_eq_true h)
theorem bet_40 : bet 40 = false := by decide +kernel
theorem bet_41 : bet 41 = false := by decide +kernel
theorem alnum_p40 : alnum 40 = false := by decide +kernel
theorem alnum_p41 : alnum 41 = false := by decide +kernel
theorem low_p40 : low 40 = false := by decide +kernel
theorem low_p41 : low 41 = false := by decide +kernel
def skip (l : List Nat) : List Nat := l.dropWhile bet
def full : List (List Tr) → Bool
  | [_ :: _] => true
  | _ => false
/-- what read_value finds behind a place: N the text's length, st the open lists (the last one first), the rest of the text -/
def rd (N : Nat) : Nat → List (List Tr) → List Nat → Except Nat Tr
  | 0, _, _ => .error 0
  | _ + 1, st, [] => match st with
    | [t :: _] => .ok t
    | _ => .error N
  | n + 1, st, c :: r =>
    if full st = true then .error (N - (r.length + 1))
    else if c = 40 then rd N n ([] :: st) (skip r)
    else match st with
      | top :: nxt :: s =>
        if c = 41 then rd N n ((nxt ++ [.l top]) :: s) (skip r)
        else if low c = true then
          if ((c :: r).takeWhile alnum).length ≤ 12 then rd N n ((top ++ [.w ⟨((c :: r).takeWhile alnum).toArray⟩]) :: nxt :: s) (skip ((c :: r).dropWhile alnum))
          else .error (N - (r.length + 1) + 12)
        else .error (N - (r.length + 1))
      | [top] =>
        if low c = true then
          if ((c :: r).takeWhile alnum).length ≤ 12 then rd N n [top ++ [.w ⟨((c :: r).takeWhile alnum).toArray⟩]] (skip ((c :: r).dropWhile alnum))
          else .error (N - (r.length + 1) + 12)
        else .error (N - (r.length + 1))
      | [] => .error 0
def WOk (s : Str) : Prop := ∃ c r, s.cps.toList = c :: r ∧ low c = true ∧ (∀ x ∈ r, alnum x = true) ∧ r.length + 1 ≤ 12
mutual
def TOk : Tr → Prop
  | .w s => WOk s
  | .l ts => TOks ts
def TOks : List Tr → Prop
  | [] => True
  | t :: ts => TOk t ∧ TOks ts
end
theorem toks_of : ∀ {ts : List Tr}, (∀ t ∈ ts, TOk t) → TOks ts
  | [], _ => by simp [TOks]
  | t :: ts, h => by
    simp only [TOks]
    exact ⟨h t List.mem_cons_self, toks_of fun u hu => h u (List.mem_cons_of_mem _ hu)⟩
theorem toks_mem : ∀ {ts : List Tr}, TOks ts → ∀ t ∈ ts, TOk t
  | t :: ts, h, u, hu => by
    simp only [TOks] at h
    rcases List.mem_cons.mp hu with e | e
    · subst e; exact h.1
    · exact toks_mem h.2 u e
mutual
def toks : Tr → List (List Nat)
  | .w s => [s.cps.toList]
  | .l ts => [40] :: (toksL ts ++ [[41]])
def toksL : List Tr → List (List Nat)
  | [] => []
  | t :: ts => toks t ++ toksL ts
end
def WordTok (k : List Nat) : Prop := ∃ c r, k = c :: r ∧ low c = true ∧ (∀ x ∈ r, alnum x = true) ∧ r.length + 1 ≤ 12
def GoodTok (k : List Nat) : Prop := k = [40] ∨ k = [41] ∨ WordTok k
/-- a text without spaces ahead spells these pieces -/
def Spells : List (List Nat) → List Nat → Prop
  | [], l => l = []
  | k :: ks, l => ∃ g r, l = k ++ (g ++ r) ∧ (∀ c ∈ g, bet c = true) ∧ Spells ks r ∧ (WordTok k → ∀ c, (g ++ r).head? = some c → alnum c = false)
mutual
theorem good_toks : ∀ {t : Tr}, TOk t → ∀ k ∈ toks t, GoodTok k
  | .w s, h, k, hk => by
    simp only [toks, List.mem_singleton] at hk
    subst hk
    simp only [TOk] at h
    exact .inr (.inr h)
  | .l ts, h, k, hk => by
    simp only [toks, List.mem_cons, List.mem_append, List.not_mem_nil, or_false] at hk
    simp only [TOk] at h
    rcases hk with e | e | e
    · exact .inl e
    · exact good_toksL h k e
    · exact .inr (.inl e)
theorem good_toksL : ∀ {ts : List Tr}, TOks ts → ∀ k ∈ toksL ts, GoodTok k
  | [], _, k, hk => by simp [toksL] at hk
  | t :: ts, h, k, hk => by
    simp only [toksL, List.mem_append] at hk
    simp only [TOks] at h
    rcases hk with e | e
    · exact good_toks h.1 k e
    · exact good_toksL h.2 k e
end
theorem good_head {k : List Nat} (h : GoodTok k) : ∃ c r, k = c :: r ∧ bet c = false := by
  rcases h with rfl | rfl | ⟨c, r, rfl, h, _⟩
  · exact ⟨40, [], rfl, bet_40⟩
  · exact ⟨41, [], rfl, bet_41⟩
  · exact ⟨c, r, rfl, alnum_bet (low_alnum h)⟩
theorem skip_gap : ∀ {g l : List Nat}, (∀ c ∈ g, bet c = true) → skip (g ++ l) = skip l
  | [], _, _ => rfl
  | c :: g, l, h => by
    have h1 := h c List.mem_cons_self
    show (c :: (g ++ l)).dropWhile bet = _
    rw [List.dropWhile_cons, h1]
    exact skip_gap fun x hx => h x (List.mem_cons_of_mem _ hx)
theorem skip_no {c : Nat} {l : List Nat} (h : bet c = false) : skip (c :: l) = c :: l := by
  show (c :: l).dropWhile bet = _
  rw [List.dropWhile_cons, h]
  rfl
theorem spells_skip {ks : List (List Nat)} {l : List Nat} (h : Spells ks l) (g : ∀ k ∈ ks, GoodTok k) : skip l = l := by
  cases ks with
  | nil => have e : l = [] := h; subst e; rfl
  | cons k ks =>
    obtain ⟨gp, r, e, _⟩ := h
    obtain ⟨c, q, e2, hb⟩ := good_head (g k List.mem_cons_self)
    rw [e, e2]
    exact skip_no hb
theorem spells_gap {ks : List (List Nat)} {g r : List Nat} (hg : ∀ c ∈ g, bet c = true) (h : Spells ks r) (k : ∀ k ∈ ks, GoodTok k) : skip (g ++ r) = r := by
  rw [skip_gap hg, spells_skip h k]
theorem word_split {c : Nat} {r m : List Nat} (hl : low c = true) (hr : ∀ x ∈ r, alnum x = true) (hm : ∀ x, m.head? = some x → alnum x = false) :
    (c :: (r ++ m)).takeWhile alnum = c :: r ∧ (c :: (r ++ m)).dropWhile alnum = m := by
  have key : ∀ r : List Nat, (∀ x ∈ r, alnum x = true) → (r ++ m).takeWhile alnum = r ∧ (r ++ m).dropWhile alnum = m := by
    intro r
    induction r with
    | nil =>
      intro _
      cases m with
      | nil => exact ⟨rfl, rfl⟩
      | cons x m =>
        have hx := hm x rfl
        simp [List.takeWhile_cons, List.dropWhile_cons, hx]
    | cons y r ih =>
      intro h
      have hy := h y List.mem_cons_self
      obtain ⟨i1, i2⟩ := ih fun x hx => h x (List.mem_cons_of_mem _ hx)
      simp [List.takeWhile_cons, List.dropWhile_cons, hy, i1, i2]
  have hc := low_alnum hl
  obtain ⟨i1, i2⟩ := key r hr
  constructor
  · rw [List.takeWhile_cons, hc]; simp [i1]
  · rw [List.dropWhile_cons, hc]; simp [i2]
theorem full_no {top : List Tr} {st : List (List Tr)} (h : st ≠ [] ∨ top = []) : full (top :: st) = false := by
  rcases h with h | h
  · cases st with
    | nil => exact absurd rfl h
    | cons a s => cases top <;> rfl
  · subst h; cases st <;> rfl
mutual
theorem rd_t (N : Nat) : ∀ {t : Tr} {ks : List (List Nat)} {l : List Nat} {top : List Tr} {st : List (List Tr)} {n : Nat}, TOk t → (∀ k ∈ ks, GoodTok k) → Spells (toks t ++ ks) l → (st ≠ [] ∨ top = []) → l.length < n →
    ∃ l' n', Spells ks l' ∧ l'.length < n' ∧ rd N n (top :: st) l = rd N n' ((top ++ [t]) :: st) l'
  | .w s, ks, l, top, st, n, ok, gk, sp, hst, hn => by
    simp only [TOk] at ok
    obtain ⟨c, r, ec, hl, hr, h12⟩ := ok
    simp only [toks, List.cons_append, List.nil_append] at sp
    obtain ⟨g, m, el, hg, hs, hw⟩ := sp
    rw [ec] at el hw
    have hw' := hw ⟨c, r, rfl, hl, hr, h12⟩
    obtain ⟨w1, w2⟩ := word_split (m := g ++ m) hl hr hw'
    subst el
    cases n with
    | zero => exact absurd hn (Nat.not_lt_zero _)
    | succ n =>
      have es : (⟨(c :: r).toArray⟩ : Str) = s := by rw [← ec]
      have hc40 : c ≠ 40 := alnum_40 (low_alnum hl)
      have hc41 : c ≠ 41 := alnum_41 (low_alnum hl)
      refine ⟨m, n, hs, ?_, ?_⟩
      · simp only [List.length_append, List.length_cons] at hn; omega
      · show rd N (n + 1) (top :: st) (c :: (r ++ (g ++ m))) = _
        have h13 : (c :: r).length ≤ 12 := by simpa using h12
        cases st with
        | nil =>
          simp only [rd, full_no hst, Bool.false_eq_true, if_false, hc40, hl, if_true, w1, w2, h13, es, spells_gap hg hs gk]
        | cons nxt s' =>
          simp only [rd, full_no hst, Bool.false_eq_true, if_false, hc40, hc41, hl, if_true, w1, w2, h13, es, spells_gap hg hs gk]
  | .l ts, ks, l, top, st, n, ok, gk, sp, hst, hn => by
    simp only [TOk] at ok
    simp only [toks, List.cons_append, List.append_assoc] at sp
    obtain ⟨g, m, el, hg, hs, _⟩ := sp
    cases n with
    | zero => exact absurd hn (Nat.not_lt_zero _)
    | succ n =>
      have gk2 : ∀ k ∈ [[41]] ++ ks, GoodTok k := fun k hk => by
        rcases List.mem_append.mp hk with e | e
        · exact .inr (.inl (List.mem_singleton.mp e))
        · exact gk k e
      have gk1 : ∀ k ∈ toksL ts ++ ([[41]] ++ ks), GoodTok k := fun k hk => by
        rcases List.mem_append.mp hk with e | e
        · exact good_toksL ok k e
        · exact gk2 k e
      subst el
      have hn1 : m.length < n := by
        simp only [List.length_append, List.length_cons, List.length_nil] at hn; omega
      obtain ⟨l1, n1, s1, b1, e1⟩ := rd_ts N (top := []) (st := top :: st) ok gk2 hs (by simp) hn1
      simp only [List.cons_append, List.nil_append] at s1
      obtain ⟨g2, m2, el2, hg2, hs2, _⟩ := s1
      subst el2
      cases n1 with
      | zero => exact absurd b1 (Nat.not_lt_zero _)
      | succ n1 =>
        refine ⟨m2, n1, hs2, ?_, ?_⟩
        · simp only [List.length_append, List.length_cons, List.length_nil] at b1; omega
        · have step1 : rd N (n + 1) (top :: st) ([40] ++ (g ++ m)) = rd N n ([] :: top :: st) m := by
            show rd N (n + 1) (top :: st) (40 :: (g ++ m)) = _
            simp only [rd, full_no hst, Bool.false_eq_true, if_false, if_true, spells_gap hg hs gk1]
          have step2 : rd N (n1 + 1) (([] ++ ts) :: top :: st) ([41] ++ (g2 ++ m2)) = rd N n1 ((top ++ [.l ts]) :: st) m2 := by
            show rd N (n1 + 1) (ts :: top :: st) (41 :: (g2 ++ m2)) = _
            have f : full (ts :: top :: st) = false := by cases ts <;> rfl
            simp only [rd, f, Bool.false_eq_true, if_false, if_true, (by decide : ¬ (41 = 40)), spells_gap hg2 hs2 gk]
          rw [step1, e1, step2]
theorem rd_ts (N : Nat) : ∀ {ts : List Tr} {ks : List (List Nat)} {l : List Nat} {top : List Tr} {st : List (List Tr)} {n : Nat}, TOks ts → (∀ k ∈ ks, GoodTok k) → Spells (toksL ts ++ ks) l → st ≠ [] → l.length < n →
    ∃ l' n', Spells ks l' ∧ l'.length < n' ∧ rd N n (top :: st) l = rd N n' ((top ++ ts) :: st) l'
  | [], ks, l, top, st, n, _, gk, sp, hst, hn => by
    simp only [toksL, List.nil_append] at sp
    exact ⟨l, n, sp, hn, by rw [List.append_nil]⟩
  | t :: ts, ks, l, top, st, n, ok, gk, sp, hst, hn => by
    simp only [TOks] at ok
    simp only [toksL, List.append_assoc] at sp
    have gk1 : ∀ k ∈ toksL ts ++ ks, GoodTok k := fun k hk => by
      rcases List.mem_append.mp hk with e | e
      · exact good_toksL ok.2 k e
      · exact gk k e
    obtain ⟨l1, n1, s1, b1, e1⟩ := rd_t N (top := top) ok.1 gk1 sp (.inl hst) hn
    obtain ⟨l2, n2, s2, b2, e2⟩ := rd_ts N (top := top ++ [t]) ok.2 gk s1 hst b1
    refine ⟨l2, n2, s2, b2, ?_⟩
    rw [e1, e2, List.append_assoc]
    rfl
end
/-- a text with spaces ahead -/
def SpellsG (ks : List (List Nat)) (l : List Nat) : Prop := ∃ g r, l = g ++ r ∧ (∀ c ∈ g, bet c = true) ∧ Spells ks r
theorem read_ok {t : Tr} {l : List Nat} {N : Nat} (ok : TOk t) (h : SpellsG (toks t) l) : rd N (l.length + 1) [[]] (skip l) = .ok t := by
  obtain ⟨g, r, rfl, hg, hs⟩ := h
  rw [spells_gap hg hs (good_toks ok)]
  have hs' : Spells (toks t ++ []) r := by rw [List.append_nil]; exact hs
  obtain ⟨l', n', s', b', e⟩ := rd_t N (top := []) (st := []) (n := (g ++ r).length + 1) ok (fun k hk => absurd hk List.not_mem_nil) hs' (.inr rfl) (by simp only [List.length_append]; omega)
  have el : l' = [] := s'
  subst el
  rw [e]
  cases n' with
  | zero => exact absurd b' (Nat.not_lt_zero _)
  | succ n => rfl
/-! ### what is written -/
mutual
def wr : Tr → List Nat
  | .w s => s.cps.toList
  | .l ts => 40 :: (wrs ts ++ [41])
/-- the texts with one space between -/
def wrs : List Tr → List Nat
  | [] => []
  | [t] => wr t
  | t :: u :: ts => wr t ++ 32 :: wrs (u :: ts)
end
theorem bet32 : bet 32 = true := by decide +kernel
mutual
theorem spells_wr : ∀ {t : Tr} {ks : List (List Nat)} {m : List Nat}, TOk t → (∃ g r, m = g ++ r ∧ (∀ c ∈ g, bet c = true) ∧ Spells ks r) → (∀ c, m.head? = some c → alnum c = false) → Spells (toks t ++ ks) (wr t ++ m)
  | .w s, ks, m, ok, ⟨g, r, e, hg, hs⟩, hm => by
    subst e
    simp only [toks, wr, List.cons_append, List.nil_append]
    exact ⟨g, r, rfl, hg, hs, fun _ => hm⟩
  | .l ts, ks, m, ok, ⟨g, r, e, hg, hs⟩, hm => by
    subst e
    simp only [TOk] at ok
    simp only [toks, wr, List.cons_append, List.append_assoc, List.nil_append]
    refine ⟨[], wrs ts ++ 41 :: (g ++ r), rfl, fun _ h => (nomatch h), ?_, fun ⟨c, _, h, hl, _⟩ => by injection h with h _; subst h; rw [low_p40] at hl; cases hl⟩
    have h41 : Spells ([41] :: ks) (41 :: (g ++ r)) := ⟨g, r, rfl, hg, hs, fun ⟨c, _, h, hl, _⟩ => absurd hl (by rw [← (List.cons.inj h).1, low_p41]; decide)⟩
    exact spells_wrs (m := 41 :: (g ++ r)) ok ⟨[], _, rfl, fun _ h => (nomatch h), h41⟩ (fun c hc => by
      have e : 41 = c := by simpa using hc
      rw [← e]; exact alnum_p41) fun _ => ⟨_, rfl, h41⟩
theorem spells_wrs : ∀ {ts : List Tr} {ks : List (List Nat)} {m : List Nat}, TOks ts → (∃ g r, m = g ++ r ∧ (∀ c ∈ g, bet c = true) ∧ Spells ks r) → (∀ c, m.head? = some c → alnum c = false) → 
    (ts = [] → ∃ r, m = r ∧ Spells ks r) → Spells (toksL ts ++ ks) (wrs ts ++ m)
  | [], ks, m, ok, h, hm, hn => by
    obtain ⟨r, e, hs⟩ := hn rfl
    subst e
    simpa [toksL, wrs] using hs
  | [t], ks, m, ok, h, hm, _ => by
    simp only [TOks] at ok
    simp only [toksL, wrs, List.append_nil]
    exact spells_wr ok.1 h hm
  | t :: u :: ts, ks, m, ok, h, hm, _ => by
    rw [TOks] at ok
    have e : wrs (t :: u :: ts) ++ m = wr t ++ (32 :: (wrs (u :: ts) ++ m)) := by simp [wrs]
    have e2 : toksL (t :: u :: ts) ++ ks = toks t ++ (toksL (u :: ts) ++ ks) := by simp [toksL]
    rw [e, e2]
    refine spells_wr ok.1 ⟨[32], wrs (u :: ts) ++ m, rfl, fun c hc => by rw [List.mem_singleton.mp hc]; exact bet32, spells_wrs ok.2 h hm fun z => by cases z⟩ fun c hc => ?_
    have e : 32 = c := by simpa using hc
    rw [← e]; exact bet_alnum bet32
end
theorem read_wr {t : Tr} (ok : TOk t) : SpellsG (toks t) (wr t) := by
  refine ⟨[], wr t, rfl, fun _ h => (nomatch h), ?_⟩
  have h := spells_wr (t := t) (ks := []) (m := []) ok ⟨[], [], rfl, fun _ h => (nomatch h), rfl⟩ fun c hc => by simp at hc
  simpa using h
/-! ### how write_value goes along -/
abbrev Wt := Sum Str Tr
def wtx : Wt → List Nat
  | .inl s => s.cps.toList
  | .inr t => wr t
def wtw : Wt → Nat
  | .inl _ => 1
  | .inr t => 3 * t.size - 1
def wtws (ws : List Wt) : Nat := (ws.map wtw).sum
theorem wtws_append (a b : List Wt) : wtws (a ++ b) = wtws a + wtws b := by simp [wtws]
theorem wtws_length : ∀ ws : List Wt, ws.length ≤ wtws ws
  | [] => Nat.zero_le _
  | w :: ws => by
    have h := wtws_length ws
    have h1 : 1 ≤ wtw w := by
      cases w with
      | inl s => exact Nat.le_refl _
      | inr t => have := Tr.size_pos t; show 1 ≤ 3 * t.size - 1; omega
    show ws.length + 1 ≤ wtw w + wtws ws
    omega
/-- what is laid for the items from a place on -/
def pfx (b : Bool) : List Tr → List Wt
  | [] => []
  | t :: r => pfx true r ++ ([.inr t] ++ if b then [.inl " "] else [])
theorem pfx_w : ∀ (b : Bool) (ts : List Tr), wtws (pfx b ts) ≤ 3 * Tr.sizes ts
  | _, [] => Nat.zero_le _
  | b, t :: r => by
    have h := pfx_w true r
    have := Tr.size_pos t
    have e : wtws (([.inr t] : List Wt) ++ if b then [.inl " "] else []) ≤ 3 * t.size := by
      cases b <;> simp [wtws, wtw] <;> omega
    show wtws (pfx true r ++ _) ≤ 3 * (t.size + Tr.sizes r)
    rw [wtws_append]; omega
abbrev spS : Str := " "
abbrev opS : Str := "("
abbrev clS : Str := ")"
theorem slens : ∀ l : List Str, (l.map (·.length)).sum = (l.flatMap (fun s => s.cps.toList)).length
  | [] => rfl
  | x :: r => by
    have h : x.cps.toList.length = x.length := by
      show x.cps.toList.length = x.cps.size
      simp
    simp only [List.map_cons, List.sum_cons, List.flatMap_cons, List.length_append, h, slens r]
theorem sizes_drop : ∀ (ts : List Tr) (n : Nat), Tr.sizes (ts.drop n) ≤ Tr.sizes ts
  | ts, 0 => Nat.le_refl _
  | [], n + 1 => by simp
  | t :: r, n + 1 => by
    have := sizes_drop r n
    show Tr.sizes (r.drop n) ≤ t.size + Tr.sizes r
    omega
theorem sp_cps : (" " : Str).cps.toList = [32] := by decide +kernel
theorem op_cps : ("(" : Str).cps.toList = [40] := by decide +kernel
theorem cl_cps : (")" : Str).cps.toList = [41] := by decide +kernel
theorem pfx_tx : ∀ (b : Bool) (ts : List Tr), (pfx b ts).reverse.flatMap wtx = (if b = true ∧ ts ≠ [] then [32] else []) ++ wrs ts
  | b, [] => by simp [pfx, wrs]
  | b, [t] => by
    cases b
    · simp [pfx, wrs, wtx]
    · simp [pfx, wrs, wtx, sp_cps]
  | b, t :: u :: r => by
    have h := pfx_tx true (u :: r)
    have h' : (pfx true (u :: r)).reverse.flatMap wtx = 32 :: wrs (u :: r) := by simpa using h
    have e : pfx b (t :: u :: r) = pfx true (u :: r) ++ ([.inr t] ++ if b then [.inl " "] else []) := rfl
    rw [e, List.reverse_append, List.flatMap_append, h', wrs]
    cases b
    · simp [wtx]
    · simp [wtx, sp_cps]
theorem drop_pfx {ts : List Tr} {i : Nat} {t : Tr} (h : ts[i]? = some t) (b : Bool) : pfx b (ts.drop i) = pfx true (ts.drop (i + 1)) ++ ([.inr t] ++ if b then [.inl " "] else []) := by
  have hi : i < ts.length := (List.getElem?_eq_some_iff.mp h).1
  have e : ts[i] = t := (List.getElem?_eq_some_iff.mp h).2
  rw [List.drop_eq_getElem_cons hi, e]
  rfl
theorem join_cps (l : List Str) : (Txt.join "" l).cps.toList = l.flatMap (fun s => s.cps.toList) := by
  have e := PyProof.Rows.join_plain_closes ("" : Str) l
  rw [eq_of_beq e]
  induction l with
  | nil => rfl
  | cons x r ih =>
    cases r with
    | nil => simp [Str.join]
    | cons y r =>
      have e2 : Str.join ("" : Str) (x :: y :: r) = x ++ ("" : Str) ++ Str.join "" (y :: r) := rfl
      have e3 := ih (PyProof.Rows.join_plain_closes ("" : Str) (y :: r))
      rw [e2]
      show ((x.cps ++ (Str.ofString "").cps) ++ (Str.join "" (y :: r)).cps).toList = _
      rw [Array.toList_append, e3, Array.toList_append]
      have e0 : (Str.ofString "").cps.toList = [] := by decide +kernel
      rw [e0]
      simp
theorem rd_full {N n c : Nat} {st : List (List Tr)} {r : List Nat} (h : full st = true) : rd N (n + 1) st (c :: r) = .error (N - (r.length + 1)) := by
  simp only [rd, h, if_true]
theorem rd_40 {N n : Nat} {st : List (List Tr)} {r : List Nat} (h : full st = false) : rd N (n + 1) st (40 :: r) = rd N n ([] :: st) (skip r) := by
  simp only [rd, h, Bool.false_eq_true, if_false, if_true]
theorem rd_41 {N n : Nat} {top nxt : List Tr} {s : List (List Tr)} {r : List Nat} (h : full (top :: nxt :: s) = false) : rd N (n + 1) (top :: nxt :: s) (41 :: r) = rd N n ((nxt ++ [.l top]) :: s) (skip r) := by
  simp only [rd, h, Bool.false_eq_true, if_false, if_true, (by decide : ¬ (41 = 40))]
theorem rd_word {N n c : Nat} {top : List Tr} {s : List (List Tr)} {r : List Nat} (h : full (top :: s) = false) (h40 : c ≠ 40) (h41 : c ≠ 41 ∨ s = []) : rd N (n + 1) (top :: s) (c :: r) =
    if low c = true then
      if ((c :: r).takeWhile alnum).length ≤ 12 then rd N n ((top ++ [.w ⟨((c :: r).takeWhile alnum).toArray⟩]) :: s) (skip ((c :: r).dropWhile alnum))
      else .error (N - (r.length + 1) + 12)
    else .error (N - (r.length + 1)) := by
  cases s with
  | nil => simp only [rd, h, Bool.false_eq_true, if_false, h40]
  | cons nxt s =>
    have h41' : c ≠ 41 := h41.elim id fun z => by cases z
    simp only [rd, h, Bool.false_eq_true, if_false, h40, h41']
/-! ### places in a text -/
theorem one_eq {c k : Nat} {s : Str} (h : s.cps.toList = [k]) : decide (V.str ⟨#[c]⟩ = V.str s) = decide (c = k) := by
  have e : (V.str ⟨#[c]⟩ = V.str s) ↔ c = k := by
    constructor
    · intro q
      have q2 : (⟨#[c]⟩ : Str) = s := by injection q
      have q3 : ([c] : List Nat) = s.cps.toList := by rw [← q2]
      rw [h] at q3
      exact (List.cons.inj q3).1
    · intro q
      subst q
      have : s = ⟨#[c]⟩ := by
        cases s with
        | mk a =>
          have h' : a.toList = [c] := h
          have : a = #[c] := by rw [← Array.toArray_toList (xs := a), h']
          rw [this]
      rw [this]
  exact decide_eq_decide.mpr e
theorem drop_tw (p : Nat → Bool) : ∀ l : List Nat, l.dropWhile p = l.drop (l.takeWhile p).length
  | [] => rfl
  | c :: l => by
    rw [List.dropWhile_cons, List.takeWhile_cons]
    cases h : p c with
    | true => simpa using drop_tw p l
    | false => rfl
theorem take_tw (p : Nat → Bool) : ∀ l : List Nat, l.takeWhile p = l.take (l.takeWhile p).length
  | [] => rfl
  | c :: l => by
    rw [List.takeWhile_cons]
    cases h : p c with
    | true => simpa using take_tw p l
    | false => rfl
theorem tw_le (p : Nat → Bool) : ∀ l : List Nat, (l.takeWhile p).length ≤ l.length
  | [] => Nat.le_refl _
  | c :: l => by
    have := tw_le p l
    rw [List.takeWhile_cons]
    cases h : p c with
    | true => simp; omega
    | false => simp
theorem skip_le (l : List Nat) : (skip l).length ≤ l.length := by
  unfold skip; rw [drop_tw, List.length_drop]; omega
theorem cut_cps {z : Str} {a b : Nat} (h1 : a ≤ b) (h2 : b ≤ z.length) : (cutS z (some (a : Int)) (some (b : Int))).cps.toList = (z.cps.toList.drop a).take (b - a) := by
  unfold cutS
  rw [HT.sIx_nat, HT.sIx_nat, Nat.min_eq_left (Nat.le_trans h1 h2), Nat.min_eq_left h2]
theorem str_ext {s t : Str} (h : s.cps.toList = t.cps.toList) : s = t := by
  cases s with
  | mk a => cases t with
    | mk b =>
      have : a = b := Array.toList_inj.mp h
      rw [this]
end OG

/-! ### an own error is what its own name names -/
namespace OG
open PySem
theorem exm_own {K : PySem.W.Frag} {S : Addr} (h1 : PySem.W.subIn K (.ref S) (.type "BaseException") = some true) (h2 : PySem.W.isClsIn K S = true) (h3 : PySem.W.typeIn K (.ref S) = some (.type "type")) (h4 : PySem.W.subIn K (.ref S) (.ref S) = some true) : PySem.W.exmOne K (.ref S) (.ref S) = some true := by
  have a : (PySem.W.subIn K (.ref S) (.type "BaseException") == some true) = true := by rw [h1]; rfl
  have b' : (PySem.W.clsIn K S).isSome = true := h2
  have b : ((PySem.W.clsIn K S).isSome && PySem.W.typeIn K (.ref S) == some (.type "type")) = true := by rw [b', h3]; rfl
  unfold PySem.W.exmOne
  show (if (PySem.W.subIn K (.ref S) (.type "BaseException") == some true) = true then _ else _) = some true
  rw [if_pos a]
  show (if ((PySem.W.clsIn K S).isSome && PySem.W.typeIn K (.ref S) == some (.type "type")) = true then _ else _) = some true
  rw [if_pos b]; exact h4
end OG

namespace PySem
namespace EX_BadText
open PySem.W PySem.Calls PyProof.Rows PySem.HandSPX
/-! ### the text of __init__ -/
def iA (p1 p2 : Pos) : Arguments := { posonlyargs := [], args := [{ arg := "self", annotation := none, pos := p1 }, { arg := "place", annotation := none, pos := p2 }], vararg := none, kwonlyargs := [], kw_defaults := [], kwarg := none, defaults := [] }
def iB (q1 q2 q3 q4 : Pos) : List Stmt := [.Assign [.Attribute (.Name "self" q1) "place" q2] (.Name "place" q3) q4]
def iS : Scope := { kind := .function, names := [(PySem.Str.ofString "self", .local), (PySem.Str.ofString "place", .local)], isGenerator := false, isCoroutine := false, more := [] }
structure TxtBadText (K : Frag) (mg : Str → Option Value) (C fI : Addr) : Prop where
  gC : mg "BadText" = some (.ref C)
  cls : ∃ nm q N bs bm sn sub ab col dd k0 k1 k2 k3 k5, K.lookup C = some (excClassObj nm q C N bs bm true sn sub ab col dd k0 k1 k2 k3 k5 "ValueError.__new__") ∧ refsVE bm = true
  sa : findIn K (.ref C) "__setattr__" = some (some (.builtin "object.__setattr__"))
  ga : findIn K (.ref C) "__getattribute__" = some (some (.builtin "BaseException.__getattribute__"))
  gg : findIn K (.ref C) "__getattr__" = some none
  noN : findIn K (.ref C) "place" = some none
  iC : findIn K (.ref C) "__init__" = some (some (.ref fI))
  tC : typeIn K (.ref fI) = some (.type "function")
  kC : keepIn K (.ref C) = true
  exC : subIn K (.ref C) (.type "BaseException") = some true
  tyC : typeIn K (.ref C) = some (.type "type")
  hdC : hasDictIn K C = true
  te : exmOne K (.ref C) (.ref C) = some true
  fn : ∃ (oc : Value) (od : Option Addr) (doc pm : Value) (an : Option Addr) (cdv ct : Value) (osl : Array (Option Value)) (p1 p2 q1 q2 q3 q4 : Pos),
    K.lookup fI = some ⟨oc, od, .func (fnOf "__init__" "BadText.__init__" (iA p1 p2) (iB q1 q2 q3 q4) iS .none .none doc pm an cdv ct), osl⟩ ∧ codeIn K cdv "BadText.__init__" = true
theorem one_size (v : Value) : [v].length ≤ sizeLine := by
  rw [sizeLine_eq]
  exact (by decide : 1 ≤ 16777216)
theorem kept_but {K : Frag} {h h' : Heap} {x : Addr} (X : K.In h) (hx : K.lookup x = none) (k : ∀ b o, b ≠ x → h.get? b = some o → h'.get? b = some o) : K.In h' := fun a o e =>
  k a o (fun z => by rw [z, hx] at e; cases e) (X a o e)
theorem ldC {M : Model} {s : Shared} {name : Str} {scope : Scope} {L a : Addr} {cd : Value} {m : Str → Option Value} {x : Str} {pos : Pos} {v : Value} {Q : Value → Shared → Prop} {A : Around} {E : Value → Shared → Prop} (hn : s.heap.Ns L m) (hv : m x = some v) (h : Q v s)
    (hk : scope.kind = .function := by rfl) (hl : (envOfC name scope L a cd).kindOf x = some .local := by rfl) (hd : (x == ("__debug__" : Str)) = false := by decide) :
    wpAny M A (eval (.Name x pos) (envOfC name scope L a cd)) Q E s := wpAny_Name (wpAny_loadName_local hk hl hn hv h) hd
structure InitEnd (h h' : Heap) (x C dx t1 : Addr) (v : Value) : Prop where
  keep : ∀ b o, b ≠ x → h.get? b = some o → h'.get? b = some o
  obj : h'.get? x = some { cls := .ref C, dict := some dx, data := .fields #[.ref t1, .none, .none, .none, .bool false, .none] }
  dbig : h.objs.size ≤ dx
  dne : dx ≠ x
  ns : h'.Ns1 dx (fun y => if y = "place" then some v else none)
structure OwnMade (h h' : Heap) (e C d : Addr) (v : Value) : Prop where
  keep : ∀ b o, h.get? b = some o → h'.get? b = some o
  new : h.objs.size ≤ e
  obj : ∃ oe vs, h'.get? e = some oe ∧ oe.cls = .ref C ∧ oe.dict = some d ∧ oe.data = .fields vs ∧ vs[1]? = some .none
  dbig : h.objs.size ≤ d
  dne : d ≠ e
  ns : h'.Ns1 d (fun y => if y = "place" then some v else none)
section
variable {prog : Program} {w : World} {A : Around} {E : Value → Shared → Prop} {R : Result → Shared → Prop} {s : Shared} {K : Frag} {mg : Str → Option Value} {C fI : Addr}
theorem init_BadText (T : TxtBadText K mg C fI) {x t0 : Addr} {v : Value} (X : K.In s.heap) (hlim : s.heap.NoLimit) (hx : s.heap.get? x = some (excO C t0)) (hnx : K.lookup x = none) (hroom : A.depth < recursionLimit)
    (hq : ∀ h' tk dx, InitEnd s.heap h' x C dx t0 v → R (.ok (.ret .none)) { s with heap := h', toks := tk }) :
    codeAny (model prog w) A (.call (.ref fI) ⟨[.ref x, v], []⟩) R s := by
  obtain ⟨oc, od, doc, pm, an, cdv, ct, osl, p1, p2, q1, q2, q3, q4, ho, hcd⟩ := T.fn
  obtain ⟨nm, q, N, bs, bm, sn, sub, ab, col, dd, k0, k1, k2, k3, k5, hC, hbm⟩ := T.cls
  have hcl : clsIn K C = some { name := nm, bases := bs, mro := .ref C :: bm, ns := N, qualname := q, hasDict := true, slotNames := sn, subclasses := sub, abstract := ab, collection := col, hasDel := false } := by unfold clsIn; rw [hC] <;> rfl
  refine Att.call_fn (binds := [("self", .ref x), ("place", v)]) X hlim ho hcd hroom (BindsTo.of_eq (by first | rfl | with_unfolding_all rfl)) (by first | rfl | decide | with_unfolding_all rfl) (fun s₁ IC => ?_) rfl rfl rfl
  obtain ⟨h₁, tk₁, rfl⟩ := IC.toInCall.same
  have k : ∀ b o, s.heap.get? b = some o → h₁.get? b = some o := IC.toInCall.keep
  have hn := IC.toInCall.ns
  have hxL : s.heap.objs.size ≠ x := Nat.ne_of_gt (Heap.lt_size hx)
  have X₁ : K.In h₁ := X.keeps k
  have hx₁ := k _ _ hx
  -- self.by = by
  show wpAny _ _ (execs _ _) _ _ _
  refine wpAny_execs_cons (plainObj_wpAny_Assign_Attribute ?_)
  refine ldC (v := v) hn (by first | rfl | with_unfolding_all rfl | kernel_rfl) (ldC (v := .ref x) hn (by first | rfl | with_unfolding_all rfl | kernel_rfl) ?_)
  refine set_plain X₁ (ox := excO C t0) (od := none) ⟨hx₁, rfl, rfl, trivial⟩ T.sa ?_
  refine exc_osa X₁ hx₁ hcl (show refsVE (.ref C :: bm) = true from hbm) rfl T.noN (fun h₃ tk₃ dx k₃ dn dne hx₃ hn₃ => ?_)
  show wpAny _ _ (execs _ _) _ _ _
  have z : s.heap.objs.size < h₁.objs.size := hn.lt
  exact wpAny_execs_nil (hq h₃ tk₃ dx ⟨fun b o hb e => k₃ b o hb (k b o e), hx₃, Nat.le_of_lt (Nat.lt_of_lt_of_le z dn), dne, hn₃⟩)
theorem made_BadText (T : TxtBadText K mg C fI) {v : Value} (X : K.In s.heap) (hlim : s.heap.NoLimit) (hroom : A.depth + 1 < recursionLimit)
    (hq : ∀ h' tk e d, OwnMade s.heap h' e C d v → R (.ok (.ret (.ref e))) { s with heap := h', toks := tk }) :
    codeAny (model prog w) A (.call (.ref C) ⟨[v], []⟩) R s := by
  obtain ⟨nm, q, N, bs, bm, sn, sub, ab, col, dd, k0, k1, k2, k3, k5, hC, hbm⟩ := T.cls
  obtain ⟨hp, g, dr, tk, os⟩ := s
  have k : ∀ b o, hp.get? b = some o → ((hp.push (kdv_tup [v])).push (excO C hp.objs.size)).get? b = some o := fun b o e => Heap.get?_push_of_some _ (Heap.get?_push_of_some _ e)
  have hget : ((hp.push (kdv_tup [v])).push (excO C hp.objs.size)).get? (hp.objs.size + 1) = some (excO C hp.objs.size) := by heap_get
  have hnx : K.lookup (hp.objs.size + 1) = none := by
    cases e : K.lookup (hp.objs.size + 1) with
    | none => rfl
    | some o =>
      have z : hp.get? (hp.objs.size + 1) = some o := X _ _ e
      exact absurd (Nat.lt_of_succ_lt (Heap.lt_size z)) (Nat.lt_irrefl _)
  refine call_own F.excBase_ValueError (fun X => refsVE_contains X bm hbm) (X _ _ hC) (looks_findIn X T.iC) (fun self => bind_fn X self T.tC) (one_size v) ?_
  refine init_BadText (s := ⟨(hp.push (kdv_tup [v])).push (excO C hp.objs.size), g, dr, tk, os⟩) T (X.keeps k) (hlim.keeps k) hget hnx ?_ fun h' tk' dx ⟨k', hx, dn, dne, hns⟩ => ?_
  · show A.depth + 1 < recursionLimit
    exact hroom
  · have old : ∀ b o, hp.get? b = some o → h'.get? b = some o := fun b o e => k' b o (Nat.ne_of_lt (Nat.lt_succ_of_lt (Heap.lt_size e))) (k b o e)
    have z : hp.objs.size + 1 + 1 ≤ dx := by
      first
        | (simpa only [Heap.size_push] using dn)
        | exact dn
        | (have q := dn; rw [Heap.size_push, Heap.size_push] at q; exact q)
    exact ⟨rfl, hq h' tk' (hp.objs.size + 1) dx ⟨old, Nat.le_succ _, ⟨_, _, hx, rfl, rfl, rfl, rfl⟩, Nat.le_trans (Nat.le_trans (Nat.le_succ _) (Nat.le_succ _)) z, dne, hns⟩⟩
end
end EX_BadText
end PySem
namespace L2
open PySem PySem.Spec PyProof.Rows
theorem relO_BadText {v : V} {v' : Value} (r : RelV v v') (f : Str) : RelO (List.lookup f [(("place" : Str), v)]) (if f = "place" then some v' else none) := by
  by_cases hw : f = "place"
  · subst hw
    rw [if_pos rfl]
    have q : List.lookup ("place" : Str) [(("place" : Str), v)] = some v := by simp [List.lookup]
    rw [q]
    exact r
  · rw [if_neg hw]
    have qw : (f == ("place" : Str)) = false := by simpa using hw
    have q2 : List.lookup f [(("place" : Str), v)] = none := by simp [List.lookup, qw]
    rw [q2]
    trivial
section
variable {X : Cx} {C fI : Addr}
def tMkBadText (C : Addr) (ta : TA) : St → Hp → XK → Prop := fun σ H Q => ta σ H fun vs H1 => ∃ v, vs = [v] ∧ ∀ d, H1 d = none → Q (.ref C) (some d) (upd H1 d (.xd [(("place" : Str), v)]))
theorem pmk_BadText {a : Expr} {ta : TA} {p pos : Pos} {k : Nat} (T : PySem.EX_BadText.TxtBadText X.K X.mg C fI) (hr : Room k X.A) (ha : PA X [a] ta) (hg : Gl X "BadText" := by rfl)
    (he : starEach (a :: []) X.env = (false, eval a X.env) :: starEach [] X.env := by rfl) (hpl : (backTo pos (starEach [] X.env)).any (·.1) = false := by rfl) :
    PMk X (.Call (.Name "BadText" p) [a] [] pos) (tMkBadText C ta) := by
  intro pins s σ H Q I h
  refine wpAny_Call_Name_kw (ld_glob I hg T.gC ?_)
  refine PySem.W.callWith_K (h₀ := X.base) I.ok.mod.kin T.kC (thn (ha.run pos pins s σ H _ I h) fun us s1 hh => ?_) he hpl
  obtain ⟨vs, H1, I1, r1, v, ev, q1⟩ := hh
  subst ev
  refine ⟨I1.kIn, ?_⟩
  cases r1 with
  | cons rv rn =>
    rename_i v' us'
    cases rn
    show wpAny _ _ (call (.ref C) [v']) _ _ _
    have hlim := I1.nolimit
    obtain ⟨hp, g, dr, tk, os⟩ := s1
    refine wpAny_call (PySem.EX_BadText.made_BadText T I1.kIn hlim (by have := hr.dp; omega) fun h' tk' e d M => ?_)
    show MkP X pins σ Q (.ref e) ⟨h', g, dr, tk', os⟩
    obtain ⟨oe, fv, hoe, hc, hd, hdat, h1⟩ := M.obj
    have hns := M.ns
    obtain ⟨G', g1, g2⟩ := restrict h' fun b => decide (b ≠ e)
    have gk : ∀ b, b ≠ e → G'.get? b = h'.get? b := fun b hb => g1 b (decide_eq_true hb)
    have ge : G'.get? e = none := g2 e (by simp)
    have old : ∀ b o, hp.get? b = some o → G'.get? b = some o := fun b o q => (gk b (Nat.ne_of_lt (Nat.lt_of_lt_of_le (Heap.lt_size q) M.new))).trans (M.keep b o q)
    have ob : ObjOk X.prog X.w (upd H1 d (.xd [(("place" : Str), v)])) G' d (.xd [(("place" : Str), v)]) :=
      ⟨_, hns.at (fun o q => (gk d M.dne).trans q), fun f => relO_BadText rv f⟩
    have J : Inv X pins σ (upd H1 d (.xd [(("place" : Str), v)])) ⟨G', g, dr, tk', os⟩ := I1.laid (t' := tk') old M.dbig ob
    refine ⟨e, oe, fv, ⟨G', g, dr, tk', os⟩, _, .ref C, some d, rfl, J, fun b o q => ?_, ge, hoe, ⟨hc, hd⟩, hdat, h1, ?_, rfl, I1.bare, raises_own T.exC T.tyC, q1 d (I1.hok.fresh M.dbig)⟩
    · by_cases hb : b = e
      · have q' : G'.get? b = some o := q
        rw [hb, ge] at q'; cases q'
      · exact (gk b hb).symm.trans q
    · rw [upd_ne (Ne.symm M.dne)]
      exact I1.hok.fresh M.new
def tRaiseBadText (C : Addr) (W : WX) (ta : TA) : TS := fun _ σ H => tMkBadText C ta σ H fun cls d H' => W cls d σ H'
theorem ps_raiseBadText {a : Expr} {ta : TA} {W : WX} {p pos pos2 : Pos} {k : Nat} (hc : X.calm = true) (T : PySem.EX_BadText.TxtBadText X.K X.mg C fI) (hr : Room k X.A) (tk : Takes X W) (ha : PA X [a] ta) (hg : Gl X "BadText" := by rfl)
    (he : starEach (a :: []) X.env = (false, eval a X.env) :: starEach [] X.env := by rfl) (hpl : (backTo pos (starEach [] X.env)).any (·.1) = false := by rfl) :
    PS X (.Raise (some (.Call (.Name "BadText" p) [a] [] pos)) none pos2) (tRaiseBadText C W ta) := ps_raise hc tk (pmk_BadText T hr ha hg he hpl)
def tByBadText (C : Addr) (a : Addr) (cls : Value) (d : Option Addr) (te : TE) : TE := fun σ H Q => te σ H fun x H1 => x = .ref a ∧ cls = .ref C ∧ ∃ (dd : Addr) (v : V), d = some dd ∧ H1 dd = some (.xd [(("place" : Str), v)]) ∧ Q v H1
theorem pe_byBadText {a : Addr} {oe : Obj} {cls : Value} {d : Option Addr} {pn : List (Addr × Obj)} {e : Expr} {te : TE} {pos : Pos} (T : PySem.EX_BadText.TxtBadText X.K X.mg C fI) (hz : Zc cls d oe) (hf : ∃ vs, oe.data = .fields vs) (he : PE (X.suite a ((a, oe) :: pn)) e te)
    (hb : attributeBase e "place" X.env (eval e X.env) = eval e X.env := by rfl) :
    PE (X.suite a ((a, oe) :: pn)) (.Attribute e "place" pos) (tByBadText C a cls d te) := by
  refine ⟨fun pins s σ H Q I h => ?_⟩
  refine attr_of hb (thn (he.run pins s σ H _ I h) fun u s1 hh => ?_)
  obtain ⟨x, H1, I1, rx, ex, ec, dd, v, ed, ea, q⟩ := hh
  subst ex
  obtain rfl : u = Value.ref a := rx
  subst ec
  subst ed
  obtain ⟨ha, _⟩ := I1.pin (a, oe) (List.mem_append_left _ List.mem_cons_self)
  obtain ⟨vs, hd⟩ := hf
  have hx : ObjOk X.prog X.w H1 s1.heap dd (.xd [(("place" : Str), v)]) := I1.hok dd _ ea
  obtain ⟨mA, hns, hr⟩ := hx
  obtain ⟨od, ho, hl⟩ := lookIn_ns hns
  have l : List.lookup ("place" : Str) [(("place" : Str), v)] = some v := by simp [List.lookup]
  obtain ⟨u, hu, ru⟩ := RelO.some_of (v := v) (o := mA "place") (by rw [← l]; exact hr "place")
  have J : PySem.W.InstAt s1.heap a oe C (some od) := ⟨ha, hz.1, by unfold PySem.W.notCls; rw [hd] <;> rfl, by rw [hz.2]; exact ho⟩
  exact HandSPX.exc_get I1.kIn J T.ga T.gg T.exC (PySem.W.findObj_own T.hdC T.noN rfl (by rw [hl, hu])) (handed_of ru) ⟨v, H1, I1.tok _, ru, q⟩
end
end L2
namespace OG
open PySem PySem.W
theorem bo_ValueError : bootBuiltins "ValueError" = some (.type "ValueError") := by decide +kernel
theorem kit_own {K : Frag} {X N : Addr} {b : Bool} (h1 : isClsIn K N = true) (h3 : typeIn K (.ref N) = some (.type "type")) (h4 : subIn K (.ref X) (.ref N) = some b) (h5 : subIn K (.ref X) (.ref X) = some true) : kitOne K (.ref X) (.ref N) = some b := by
  have e2 : ((clsIn K N).isSome && typeIn K (.ref N) == some (.type "type")) = true := by
    have : (clsIn K N).isSome = true := h1
    rw [this, h3]; rfl
  unfold kitOne
  by_cases e : (Value.ref X == Value.ref N) = true
  · rw [if_pos e]
    have : X = N := Value.ref.inj (eq_of_beq e)
    subst this
    rw [h5] at h4
    exact h4
  · rw [if_neg e]
    show (if ((clsIn K N).isSome && typeIn K (.ref N) == some (.type "type")) = true then subIn K (.ref X) (.ref N) else none) = some b
    rw [if_pos e2]; exact h4
theorem kit_ty' {K : Frag} {X : Addr} {T : String} {b : Bool} (hm : kitMeta T = true) (h4 : subIn K (.ref X) (.type T) = some b) : kitOne K (.ref X) (.type T) = some b := by
  unfold kitOne
  rw [if_neg (by intro z; exact Value.noConfusion (eq_of_beq z : Value.ref X = Value.type T))]
  show (if kitMeta T = true then subIn K (.ref X) (.type T) else none) = some b
  rw [if_pos hm]; exact h4
end OG

namespace L2
open PySem PySem.Spec PyProof.Rows
/-- isinstance(e, c) in a suite, e of an own class with an attribute -/
def rIsD (K : PySem.W.Frag) (D a : Addr) (cls : Value) (dd : Option Addr) : List V → Hp → VK → Prop := fun xs H Q => ∃ (d : Addr) (fs : List (Str × V)), cls = .ref D ∧ dd = some d ∧ H d = some (.xd fs) ∧ rIsE K D a xs H Q
theorem call_isD {X : Cx} {a D : Addr} {cls : Value} {dd : Option Addr} {oe : Obj} {pn : List (Addr × Obj)} (C : ExcC X.K D) (hz : Zc cls dd oe) (hf : ∃ vs, oe.data = .fields vs) : CallR (X.suite a ((a, oe) :: pn)) (.builtin "isinstance") (rIsD X.K D a cls dd) := by
  intro pins s σ H xs us Q I r h
  obtain ⟨d, fs, h1, h2, hd, c, cv, b, hxs, hcv, e, q⟩ := h
  subst h1 h2 hxs
  obtain _ | ⟨rx, _ | ⟨rt, rr⟩⟩ := r
  cases rr
  obtain rfl := (show _ = Value.ref a from rx)
  obtain rfl := hcv _ rt
  obtain ⟨vs, hv⟩ := hf
  have hx : ObjOk X.prog X.w H s.heap d (.xd fs) := I.hok d _ hd
  obtain ⟨mA, hns, _⟩ := hx
  obtain ⟨od, ho, _⟩ := lookIn_ns hns
  have J : PySem.W.InstAt s.heap a oe D (some od) := ⟨(I.pin (a, oe) (List.mem_append_left _ List.mem_cons_self)).1, hz.1, by unfold PySem.W.notCls; rw [hv] <;> rfl, by rw [hz.2]; exact ho⟩
  have hcl : (PySem.W.clsIn X.K D).isSome = true := by obtain ⟨cd, hc, _⟩ := PySem.W.any_some C.hd; rw [hc]; rfl
  exact PySem.W.kia_one (PySem.W.kitx_exc hcl C.hg C.hk C.hs C.ha C.hn C.ht C.hm) I.kIn J e (fun z => nomatch z) fun tk => ⟨.bl b, H, I.kept (t' := tk) fun _ _ z => z, rfl, q⟩
end L2

namespace L2
open PySem PySem.Spec PyProof.Rows
/-- an error of an own class with fields, held as a value -/
def ExV (C d a : Addr) : HO := .ext fun h => ∃ (oe : Obj) (vs : Array Value), h.get? a = some oe ∧ Zc (.ref C) (some d) oe ∧ oe.data = .fields vs
theorem exV_ok {P : Program} {w : World} {H : Hp} {h : Heap} {a C d : Addr} {oe : Obj} {vs : Array Value} (e : h.get? a = some oe) (z : Zc (.ref C) (some d) oe) (q : oe.data = .fields vs) : ObjOk P w H h a (ExV C d a) :=
  ⟨⟨oe, vs, e, z, q⟩, ⟨oe, e⟩, fun _ _ ⟨o, v, q, r⟩ k => ⟨o, v, k o q, r⟩⟩
/-- isinstance of such a value -/
def rIsV (K : PySem.W.Frag) : List V → Hp → VK → Prop := fun xs H Q => ∃ (a C d : Addr) (fs : List (Str × V)), ExcC K C ∧ H a = some (ExV C d a) ∧ H d = some (.xd fs) ∧ rIsE K C a xs H Q
theorem call_isV {X : Cx} : CallR X (.builtin "isinstance") (rIsV X.K) := by
  intro pins s σ H xs us Q I r h
  obtain ⟨a, D, d, fs, C, hv, hd, c, cv, b, hxs, hcv, e, q⟩ := h
  subst hxs
  obtain _ | ⟨rx, _ | ⟨rt, rr⟩⟩ := r
  cases rr
  obtain rfl := (show _ = Value.ref a from rx)
  obtain rfl := hcv _ rt
  obtain ⟨⟨oe, vs, ha, hz, hdt⟩, _, _⟩ := I.hok a _ hv
  have hx : ObjOk X.prog X.w H s.heap d (.xd fs) := I.hok d _ hd
  obtain ⟨mA, hns, _⟩ := hx
  obtain ⟨od, ho, _⟩ := lookIn_ns hns
  have J : PySem.W.InstAt s.heap a oe D (some od) := ⟨ha, hz.1, by unfold PySem.W.notCls; rw [hdt] <;> rfl, by rw [hz.2]; exact ho⟩
  have hcl : (PySem.W.clsIn X.K D).isSome = true := by obtain ⟨cd, hc, _⟩ := PySem.W.any_some C.hd; rw [hc]; rfl
  exact PySem.W.kia_one (PySem.W.kitx_exc hcl C.hg C.hk C.hs C.ha C.hn C.ht C.hm) I.kIn J e (fun z => nomatch z) fun tk => ⟨.bl b, H, I.kept (t' := tk) fun _ _ z => z, rfl, q⟩
end L2

namespace L2
open PySem PySem.Spec PyProof.Rows
section
variable {X : Cx} {C fI : Addr}
/-- BadText(a) as a value: a new error with its field -/
theorem pe_mkvBadText {a : Expr} {ta : TA} {p pos : Pos} {k : Nat} (T : PySem.EX_BadText.TxtBadText X.K X.mg C fI) (hr : Room k X.A) (ha : PA X [a] ta) (hg : Gl X "BadText" := by rfl)
    (he : starEach (a :: []) X.env = (false, eval a X.env) :: starEach [] X.env := by rfl) (hpl : (backTo pos (starEach [] X.env)).any (·.1) = false := by rfl) :
    PE X (.Call (.Name "BadText" p) [a] [] pos) (fun σ H Q => ta σ H fun vs H1 => ∃ v, vs = [v] ∧ ∀ d e, H1 d = none → upd H1 d (.xd [(("place" : Str), v)]) e = none → Q (.ref e) (upd (upd H1 d (.xd [(("place" : Str), v)])) e (ExV C d e))) := by
  refine ⟨fun pins s σ H Q I h => ?_⟩
  refine wpAny_Call_Name_kw (ld_glob I hg T.gC ?_)
  refine PySem.W.callWith_K (h₀ := X.base) I.ok.mod.kin T.kC (thn (ha.run pos pins s σ H _ I h) fun us s1 hh => ?_) he hpl
  obtain ⟨vs, H1, I1, r1, v, ev, q1⟩ := hh
  subst ev
  refine ⟨I1.kIn, ?_⟩
  cases r1 with
  | cons rv rn =>
    rename_i v' us'
    cases rn
    show wpAny _ _ (call (.ref C) [v']) _ _ _
    have hlim := I1.nolimit
    obtain ⟨hp, g, dr, tk, os⟩ := s1
    refine wpAny_call (PySem.EX_BadText.made_BadText T I1.kIn hlim (by have := hr.dp; omega) fun h' tk' e d M => ?_)
    obtain ⟨oe, fv, hoe, hc, hd, hdat, h1⟩ := M.obj
    have hns := M.ns
    obtain ⟨G', g1, g2⟩ := restrict h' fun b => decide (b ≠ e)
    have gk : ∀ b, b ≠ e → G'.get? b = h'.get? b := fun b hb => g1 b (decide_eq_true hb)
    have ge : G'.get? e = none := g2 e (by simp)
    have old : ∀ b o, hp.get? b = some o → G'.get? b = some o := fun b o q => (gk b (Nat.ne_of_lt (Nat.lt_of_lt_of_le (Heap.lt_size q) M.new))).trans (M.keep b o q)
    have ob : ObjOk X.prog X.w (upd H1 d (.xd [(("place" : Str), v)])) G' d (.xd [(("place" : Str), v)]) :=
      ⟨_, hns.at (fun o q => (gk d M.dne).trans q), fun f => relO_BadText rv f⟩
    have J : Inv X pins σ (upd H1 d (.xd [(("place" : Str), v)])) ⟨G', g, dr, tk', os⟩ := I1.laid (t' := tk') old M.dbig ob
    have hne : upd H1 d (.xd [(("place" : Str), v)]) e = none := by
      rw [upd_ne (Ne.symm M.dne)]
      exact I1.hok.fresh M.new
    have gs : ∀ b o, G'.get? b = some o → h'.get? b = some o := fun b o q => by
      by_cases hb : b = e
      · rw [hb, ge] at q; cases q
      · exact (gk b hb).symm.trans q
    have J2 := J.laidN (t' := tk') (a := e) (o := ExV C d e) gs ge hne (exV_ok hoe ⟨hc, hd⟩ hdat)
    exact ⟨.ref e, _, J2, rfl, q1 d e (I1.hok.fresh M.dbig) hne⟩
/-- its field -/
theorem pe_byvBadText {e : Expr} {te : TE} {pos : Pos} (T : PySem.EX_BadText.TxtBadText X.K X.mg C fI) (he : PE X e te) (hb : attributeBase e "place" X.env (eval e X.env) = eval e X.env := by rfl) :
    PE X (.Attribute e "place" pos) (fun σ H Q => te σ H fun x H1 => ∃ (a d : Addr) (v : V), x = .ref a ∧ H1 a = some (ExV C d a) ∧ H1 d = some (.xd [(("place" : Str), v)]) ∧ Q v H1) := by
  refine ⟨fun pins s σ H Q I h => ?_⟩
  refine attr_of hb (thn (he.run pins s σ H _ I h) fun u s1 hh => ?_)
  obtain ⟨x, H1, I1, rx, a, dd, v, ex, ev, ea, q⟩ := hh
  subst ex
  obtain rfl : u = Value.ref a := rx
  obtain ⟨⟨oe, vs, ha, hz, hd⟩, _, _⟩ := I1.hok a _ ev
  have hx : ObjOk X.prog X.w H1 s1.heap dd (.xd [(("place" : Str), v)]) := I1.hok dd _ ea
  obtain ⟨mA, hns, hr⟩ := hx
  obtain ⟨od, ho, hl⟩ := lookIn_ns hns
  have l : List.lookup ("place" : Str) [(("place" : Str), v)] = some v := by simp [List.lookup]
  obtain ⟨u, hu, ru⟩ := RelO.some_of (v := v) (o := mA "place") (by rw [← l]; exact hr "place")
  have J : PySem.W.InstAt s1.heap a oe C (some od) := ⟨ha, hz.1, by unfold PySem.W.notCls; rw [hd] <;> rfl, by rw [hz.2]; exact ho⟩
  exact HandSPX.exc_get I1.kIn J T.ga T.gg T.exC (PySem.W.findObj_own T.hdC T.noN rfl (by rw [hl, hu])) (handed_of ru) ⟨v, H1, I1.tok _, ru, q⟩
end
end L2

namespace K2
open PySem L2 OG
def topS (i : Nat) : Stmt := PySem.Challenge.pw_ownglass_k02_the_place_where_a_text_is_w.main.body.getD i (.Pass ⟨0, 0, 0, 0⟩)
abbrev s_behind_run : Stmt := topS 9
theorem sc_behind_run : FnScope ["text", "start", "signs", "end"] ["text", "start", "signs"] (defScope s_behind_run) := ⟨rfl, rfl, rfl, by decide +kernel, rfl, by decide +kernel, by decide +kernel⟩
abbrev s_behind_word : Stmt := topS 10
theorem sc_behind_word : FnScope ["text", "start", "end"] ["text", "start"] (defScope s_behind_word) := ⟨rfl, rfl, rfl, by decide +kernel, rfl, by decide +kernel, by decide +kernel⟩
abbrev s_read_value : Stmt := topS 11
theorem sc_read_value : FnScope ["text", "opened", "at", "end", "items"] ["text"] (defScope s_read_value) := ⟨rfl, rfl, rfl, by decide +kernel, rfl, by decide +kernel, by decide +kernel⟩
abbrev s_law_draws : Stmt := topS 13
theorem sc_law_draws : FnScope ["_law_script", "_law_many", "_law_rests", "_law_draws_here", "_law_k", "_law_cell", "_law_mixed", "_law_at"] ["_law_script", "_law_many"] (defScope s_law_draws) := ⟨rfl, rfl, rfl, by decide +kernel, rfl, by decide +kernel, by decide +kernel⟩
abbrev s_law_take : Stmt := topS 14
theorem sc_law_take : FnScope ["_law_hand", "_law_many", "_law_at", "_law_draws_here"] ["_law_hand", "_law_many"] (defScope s_law_take) := ⟨rfl, rfl, rfl, by decide +kernel, rfl, by decide +kernel, by decide +kernel⟩
abbrev s_law_word : Stmt := topS 15
theorem sc_law_word : FnScope ["_law_hand", "_law_letters", "_law_size", "_law_word_here", "_law_k"] ["_law_hand"] (defScope s_law_word) := ⟨rfl, rfl, rfl, by decide +kernel, rfl, by decide +kernel, by decide +kernel⟩
abbrev s_law_value : Stmt := topS 16
theorem sc_law_value : FnScope ["_law_hand", "_law_depth", "_law_many", "_law_k"] ["_law_hand", "_law_depth"] (defScope s_law_value) := ⟨rfl, rfl, rfl, by decide +kernel, rfl, by decide +kernel, by decide +kernel⟩
abbrev s_law_text : Stmt := topS 17
theorem sc_law_text : FnScope ["_law_value_here", "_law_one"] ["_law_value_here"] (defScope s_law_text) := ⟨rfl, rfl, rfl, by decide +kernel, rfl, by decide +kernel, by decide +kernel⟩
abbrev s_law_deep : Stmt := topS 18
theorem sc_law_deep : FnScope ["_law_hand", "_law_inner", "_law_value_here", "_law_left", "_law_right", "_law_seed", "_law_k", "_law_kind", "_law_word_here"] ["_law_hand", "_law_inner"] (defScope s_law_deep) := ⟨rfl, rfl, rfl, by decide +kernel, rfl, by decide +kernel, by decide +kernel⟩
abbrev s_law_like : Stmt := topS 19
theorem sc_law_like : FnScope ["_law_found", "_law_expected", "_law_pairs", "_law_step", "_law_at", "_law_first", "_law_second"] ["_law_found", "_law_expected"] (defScope s_law_like) := ⟨rfl, rfl, rfl, by decide +kernel, rfl, by decide +kernel, by decide +kernel⟩
abbrev s_law_run_end : Stmt := topS 20
theorem sc_law_run_end : FnScope ["_law_text_here", "_law_at", "_law_k"] ["_law_text_here", "_law_at"] (defScope s_law_run_end) := ⟨rfl, rfl, rfl, by decide +kernel, rfl, by decide +kernel, by decide +kernel⟩
abbrev s_law_read : Stmt := topS 21
theorem sc_law_read : FnScope ["_law_text_here", "_law_opened", "_law_whole", "_law_at", "_law_step", "_law_sign", "_law_found", "_law_end"] ["_law_text_here"] (defScope s_law_read) := ⟨rfl, rfl, rfl, by decide +kernel, rfl, by decide +kernel, by decide +kernel⟩
abbrev s_law_piece : Stmt := topS 22
theorem sc_law_piece : FnScope ["_law_hand", "_law_strange", "_law_kind"] ["_law_hand"] (defScope s_law_piece) := ⟨rfl, rfl, rfl, by decide +kernel, rfl, by decide +kernel, by decide +kernel⟩
abbrev s_law_spoilt : Stmt := topS 23
theorem sc_law_spoilt : FnScope ["_law_hand", "_law_text_here", "_law_at", "_law_kind"] ["_law_hand", "_law_text_here"] (defScope s_law_spoilt) := ⟨rfl, rfl, rfl, by decide +kernel, rfl, by decide +kernel, by decide +kernel⟩
abbrev s_law_is_right : Stmt := topS 24
theorem sc_law_is_right : FnScope ["_law_text_here", "_law_due", "e", "_law_found"] ["_law_text_here"] (defScope s_law_is_right) := ⟨rfl, rfl, rfl, by decide +kernel, rfl, by decide +kernel, by decide +kernel⟩
abbrev s_law : Stmt := topS 25
theorem sc_law : FnScope ["_law_script", "_law_hand", "_law_pieces", "_law_text_here", "_law_one", "_law_place", "_law_made", "_law_whole", "_law_at", "_law_deep_here", "_law_left", "_law_right", "_law_k"] ["_law_script"] (defScope s_law) := ⟨rfl, rfl, rfl, by decide +kernel, rfl, by decide +kernel, by decide +kernel⟩
structure Top (K : PySem.W.Frag) (mg : Str → Option Value) : Type where
  a_behind_run : Addr
  d_behind_run : FuncData
  F_behind_run : Fun K "behind_run" "behind_run" s_behind_run a_behind_run d_behind_run
  b_behind_run : Binds K d_behind_run ["text", "start", "signs"] []
  m_behind_run : mg "behind_run" = some (.ref a_behind_run)
  a_behind_word : Addr
  d_behind_word : FuncData
  F_behind_word : Fun K "behind_word" "behind_word" s_behind_word a_behind_word d_behind_word
  b_behind_word : Binds K d_behind_word ["text", "start"] []
  m_behind_word : mg "behind_word" = some (.ref a_behind_word)
  a_read_value : Addr
  d_read_value : FuncData
  F_read_value : Fun K "read_value" "read_value" s_read_value a_read_value d_read_value
  b_read_value : Binds K d_read_value ["text"] []
  m_read_value : mg "read_value" = some (.ref a_read_value)
  a_law_draws : Addr
  d_law_draws : FuncData
  F_law_draws : Fun K "_law_draws" "_law_draws" s_law_draws a_law_draws d_law_draws
  b_law_draws : Binds K d_law_draws ["_law_script", "_law_many"] []
  m_law_draws : mg "_law_draws" = some (.ref a_law_draws)
  a_law_take : Addr
  d_law_take : FuncData
  F_law_take : Fun K "_law_take" "_law_take" s_law_take a_law_take d_law_take
  b_law_take : Binds K d_law_take ["_law_hand", "_law_many"] []
  m_law_take : mg "_law_take" = some (.ref a_law_take)
  a_law_word : Addr
  d_law_word : FuncData
  F_law_word : Fun K "_law_word" "_law_word" s_law_word a_law_word d_law_word
  b_law_word : Binds K d_law_word ["_law_hand"] []
  m_law_word : mg "_law_word" = some (.ref a_law_word)
  a_law_value : Addr
  d_law_value : FuncData
  F_law_value : Fun K "_law_value" "_law_value" s_law_value a_law_value d_law_value
  b_law_value : Binds K d_law_value ["_law_hand", "_law_depth"] []
  m_law_value : mg "_law_value" = some (.ref a_law_value)
  a_law_text : Addr
  d_law_text : FuncData
  F_law_text : Fun K "_law_text" "_law_text" s_law_text a_law_text d_law_text
  b_law_text : Binds K d_law_text ["_law_value_here"] []
  m_law_text : mg "_law_text" = some (.ref a_law_text)
  a_law_deep : Addr
  d_law_deep : FuncData
  F_law_deep : Fun K "_law_deep" "_law_deep" s_law_deep a_law_deep d_law_deep
  b_law_deep : Binds K d_law_deep ["_law_hand", "_law_inner"] []
  m_law_deep : mg "_law_deep" = some (.ref a_law_deep)
  a_law_like : Addr
  d_law_like : FuncData
  F_law_like : Fun K "_law_like" "_law_like" s_law_like a_law_like d_law_like
  b_law_like : Binds K d_law_like ["_law_found", "_law_expected"] []
  m_law_like : mg "_law_like" = some (.ref a_law_like)
  a_law_run_end : Addr
  d_law_run_end : FuncData
  F_law_run_end : Fun K "_law_run_end" "_law_run_end" s_law_run_end a_law_run_end d_law_run_end
  b_law_run_end : Binds K d_law_run_end ["_law_text_here", "_law_at"] []
  m_law_run_end : mg "_law_run_end" = some (.ref a_law_run_end)
  a_law_read : Addr
  d_law_read : FuncData
  F_law_read : Fun K "_law_read" "_law_read" s_law_read a_law_read d_law_read
  b_law_read : Binds K d_law_read ["_law_text_here"] []
  m_law_read : mg "_law_read" = some (.ref a_law_read)
  a_law_piece : Addr
  d_law_piece : FuncData
  F_law_piece : Fun K "_law_piece" "_law_piece" s_law_piece a_law_piece d_law_piece
  b_law_piece : Binds K d_law_piece ["_law_hand"] []
  m_law_piece : mg "_law_piece" = some (.ref a_law_piece)
  a_law_spoilt : Addr
  d_law_spoilt : FuncData
  F_law_spoilt : Fun K "_law_spoilt" "_law_spoilt" s_law_spoilt a_law_spoilt d_law_spoilt
  b_law_spoilt : Binds K d_law_spoilt ["_law_hand", "_law_text_here"] []
  m_law_spoilt : mg "_law_spoilt" = some (.ref a_law_spoilt)
  a_law_is_right : Addr
  d_law_is_right : FuncData
  F_law_is_right : Fun K "_law_is_right" "_law_is_right" s_law_is_right a_law_is_right d_law_is_right
  b_law_is_right : Binds K d_law_is_right ["_law_text_here"] []
  m_law_is_right : mg "_law_is_right" = some (.ref a_law_is_right)
  a_law : Addr
  d_law : FuncData
  F_law : Fun K "law" "law" s_law a_law d_law
  b_law : Binds K d_law ["_law_script"] []
  m_law : mg "law" = some (.ref a_law)
  n_len : mg "len" = none
  n_tuple : mg "tuple" = none
  n_range : mg "range" = none
  n_abs : mg "abs" = none
  n_int : mg "int" = none
  n_isinstance : mg "isinstance" = none
  n_str : mg "str" = none
  n_ValueError : mg "ValueError" = none
  n_bool : mg "bool" = none
  C_BadText : Addr
  i_BadText : Addr
  x_BadText : PySem.EX_BadText.TxtBadText K mg C_BadText i_BadText
  t_LETTERS : Tok
  c_LETTERS : mg "LETTERS" = some (.str "abcdefghijklmnopqrstuvwxyz" t_LETTERS)
  t_MOST_SIGNS : Tok
  c_MOST_SIGNS : mg "MOST_SIGNS" = some (.int 12 t_MOST_SIGNS)
  t_FIGURES : Tok
  c_FIGURES : mg "FIGURES" = some (.str "0123456789" t_FIGURES)
  t_BETWEEN : Tok
  c_BETWEEN : mg "BETWEEN" = some (.str " \n" t_BETWEEN)
  C_BadProgram : Addr
  C_GlassError : Addr
  gn_BadText : mg "BadText" = some (.ref C_BadText)
  gn_BadProgram : mg "BadProgram" = some (.ref C_BadProgram)
  gn_GlassError : mg "GlassError" = some (.ref C_GlassError)
  ec_BadText : ExcC K C_BadText
  em_BadText_BadText : PySem.W.exmOne K (.ref C_BadText) (.ref C_BadText) = some true
  ki_BadText_BadProgram : PySem.W.kitOne K (.ref C_BadText) (.ref C_BadProgram) = some false
  ki_BadText_GlassError : PySem.W.kitOne K (.ref C_BadText) (.ref C_GlassError) = some true
  ki_BadText_ValueError : PySem.W.kitOne K (.ref C_BadText) (.type "ValueError") = some true
def all_mk {K : PySem.W.Frag} {h : Heap} {mg : Str → Option Value} (X : K.In h) (G : h.Ns mainGlobals mg)
    {f0 : Addr} {od0 an0 : Option Addr} {sl0 : Array (Option Value)} {oc0 kV0 dc0 pm0 cd0 ct0 : Value}
    (qa0 : PySem.W.nsIn K mainGlobals "behind_run" = some (some (.ref f0))) (ql0 : K.lookup f0 = some ⟨oc0, od0, .func (PySem.W.fnOf "behind_run" "behind_run" (defArgs s_behind_run) (defBody s_behind_run) (defScope s_behind_run) .none kV0 dc0 pm0 an0 cd0 ct0), sl0⟩) (qc0 : PySem.W.codeIn K cd0 "behind_run" = true) (qk0 : PySem.W.keepIn K (.ref f0) = true)
    {f1 : Addr} {od1 an1 : Option Addr} {sl1 : Array (Option Value)} {oc1 kV1 dc1 pm1 cd1 ct1 : Value}
    (qa1 : PySem.W.nsIn K mainGlobals "behind_word" = some (some (.ref f1))) (ql1 : K.lookup f1 = some ⟨oc1, od1, .func (PySem.W.fnOf "behind_word" "behind_word" (defArgs s_behind_word) (defBody s_behind_word) (defScope s_behind_word) .none kV1 dc1 pm1 an1 cd1 ct1), sl1⟩) (qc1 : PySem.W.codeIn K cd1 "behind_word" = true) (qk1 : PySem.W.keepIn K (.ref f1) = true)
    {f2 : Addr} {od2 an2 : Option Addr} {sl2 : Array (Option Value)} {oc2 kV2 dc2 pm2 cd2 ct2 : Value}
    (qa2 : PySem.W.nsIn K mainGlobals "read_value" = some (some (.ref f2))) (ql2 : K.lookup f2 = some ⟨oc2, od2, .func (PySem.W.fnOf "read_value" "read_value" (defArgs s_read_value) (defBody s_read_value) (defScope s_read_value) .none kV2 dc2 pm2 an2 cd2 ct2), sl2⟩) (qc2 : PySem.W.codeIn K cd2 "read_value" = true) (qk2 : PySem.W.keepIn K (.ref f2) = true)
    {f3 : Addr} {od3 an3 : Option Addr} {sl3 : Array (Option Value)} {oc3 kV3 dc3 pm3 cd3 ct3 : Value}
    (qa3 : PySem.W.nsIn K mainGlobals "_law_draws" = some (some (.ref f3))) (ql3 : K.lookup f3 = some ⟨oc3, od3, .func (PySem.W.fnOf "_law_draws" "_law_draws" (defArgs s_law_draws) (defBody s_law_draws) (defScope s_law_draws) .none kV3 dc3 pm3 an3 cd3 ct3), sl3⟩) (qc3 : PySem.W.codeIn K cd3 "_law_draws" = true) (qk3 : PySem.W.keepIn K (.ref f3) = true)
    {f4 : Addr} {od4 an4 : Option Addr} {sl4 : Array (Option Value)} {oc4 kV4 dc4 pm4 cd4 ct4 : Value}
    (qa4 : PySem.W.nsIn K mainGlobals "_law_take" = some (some (.ref f4))) (ql4 : K.lookup f4 = some ⟨oc4, od4, .func (PySem.W.fnOf "_law_take" "_law_take" (defArgs s_law_take) (defBody s_law_take) (defScope s_law_take) .none kV4 dc4 pm4 an4 cd4 ct4), sl4⟩) (qc4 : PySem.W.codeIn K cd4 "_law_take" = true) (qk4 : PySem.W.keepIn K (.ref f4) = true)
    {f5 : Addr} {od5 an5 : Option Addr} {sl5 : Array (Option Value)} {oc5 kV5 dc5 pm5 cd5 ct5 : Value}
    (qa5 : PySem.W.nsIn K mainGlobals "_law_word" = some (some (.ref f5))) (ql5 : K.lookup f5 = some ⟨oc5, od5, .func (PySem.W.fnOf "_law_word" "_law_word" (defArgs s_law_word) (defBody s_law_word) (defScope s_law_word) .none kV5 dc5 pm5 an5 cd5 ct5), sl5⟩) (qc5 : PySem.W.codeIn K cd5 "_law_word" = true) (qk5 : PySem.W.keepIn K (.ref f5) = true)
    {f6 : Addr} {od6 an6 : Option Addr} {sl6 : Array (Option Value)} {oc6 kV6 dc6 pm6 cd6 ct6 : Value}
    (qa6 : PySem.W.nsIn K mainGlobals "_law_value" = some (some (.ref f6))) (ql6 : K.lookup f6 = some ⟨oc6, od6, .func (PySem.W.fnOf "_law_value" "_law_value" (defArgs s_law_value) (defBody s_law_value) (defScope s_law_value) .none kV6 dc6 pm6 an6 cd6 ct6), sl6⟩) (qc6 : PySem.W.codeIn K cd6 "_law_value" = true) (qk6 : PySem.W.keepIn K (.ref f6) = true)
    {f7 : Addr} {od7 an7 : Option Addr} {sl7 : Array (Option Value)} {oc7 kV7 dc7 pm7 cd7 ct7 : Value}
    (qa7 : PySem.W.nsIn K mainGlobals "_law_text" = some (some (.ref f7))) (ql7 : K.lookup f7 = some ⟨oc7, od7, .func (PySem.W.fnOf "_law_text" "_law_text" (defArgs s_law_text) (defBody s_law_text) (defScope s_law_text) .none kV7 dc7 pm7 an7 cd7 ct7), sl7⟩) (qc7 : PySem.W.codeIn K cd7 "_law_text" = true) (qk7 : PySem.W.keepIn K (.ref f7) = true)
    {f8 : Addr} {od8 an8 : Option Addr} {sl8 : Array (Option Value)} {oc8 kV8 dc8 pm8 cd8 ct8 : Value}
    (qa8 : PySem.W.nsIn K mainGlobals "_law_deep" = some (some (.ref f8))) (ql8 : K.lookup f8 = some ⟨oc8, od8, .func (PySem.W.fnOf "_law_deep" "_law_deep" (defArgs s_law_deep) (defBody s_law_deep) (defScope s_law_deep) .none kV8 dc8 pm8 an8 cd8 ct8), sl8⟩) (qc8 : PySem.W.codeIn K cd8 "_law_deep" = true) (qk8 : PySem.W.keepIn K (.ref f8) = true)
    {f9 : Addr} {od9 an9 : Option Addr} {sl9 : Array (Option Value)} {oc9 kV9 dc9 pm9 cd9 ct9 : Value}
    (qa9 : PySem.W.nsIn K mainGlobals "_law_like" = some (some (.ref f9))) (ql9 : K.lookup f9 = some ⟨oc9, od9, .func (PySem.W.fnOf "_law_like" "_law_like" (defArgs s_law_like) (defBody s_law_like) (defScope s_law_like) .none kV9 dc9 pm9 an9 cd9 ct9), sl9⟩) (qc9 : PySem.W.codeIn K cd9 "_law_like" = true) (qk9 : PySem.W.keepIn K (.ref f9) = true)
    {f10 : Addr} {od10 an10 : Option Addr} {sl10 : Array (Option Value)} {oc10 kV10 dc10 pm10 cd10 ct10 : Value}
    (qa10 : PySem.W.nsIn K mainGlobals "_law_run_end" = some (some (.ref f10))) (ql10 : K.lookup f10 = some ⟨oc10, od10, .func (PySem.W.fnOf "_law_run_end" "_law_run_end" (defArgs s_law_run_end) (defBody s_law_run_end) (defScope s_law_run_end) .none kV10 dc10 pm10 an10 cd10 ct10), sl10⟩) (qc10 : PySem.W.codeIn K cd10 "_law_run_end" = true) (qk10 : PySem.W.keepIn K (.ref f10) = true)
    {f11 : Addr} {od11 an11 : Option Addr} {sl11 : Array (Option Value)} {oc11 kV11 dc11 pm11 cd11 ct11 : Value}
    (qa11 : PySem.W.nsIn K mainGlobals "_law_read" = some (some (.ref f11))) (ql11 : K.lookup f11 = some ⟨oc11, od11, .func (PySem.W.fnOf "_law_read" "_law_read" (defArgs s_law_read) (defBody s_law_read) (defScope s_law_read) .none kV11 dc11 pm11 an11 cd11 ct11), sl11⟩) (qc11 : PySem.W.codeIn K cd11 "_law_read" = true) (qk11 : PySem.W.keepIn K (.ref f11) = true)
    {f12 : Addr} {od12 an12 : Option Addr} {sl12 : Array (Option Value)} {oc12 kV12 dc12 pm12 cd12 ct12 : Value}
    (qa12 : PySem.W.nsIn K mainGlobals "_law_piece" = some (some (.ref f12))) (ql12 : K.lookup f12 = some ⟨oc12, od12, .func (PySem.W.fnOf "_law_piece" "_law_piece" (defArgs s_law_piece) (defBody s_law_piece) (defScope s_law_piece) .none kV12 dc12 pm12 an12 cd12 ct12), sl12⟩) (qc12 : PySem.W.codeIn K cd12 "_law_piece" = true) (qk12 : PySem.W.keepIn K (.ref f12) = true)
    {f13 : Addr} {od13 an13 : Option Addr} {sl13 : Array (Option Value)} {oc13 kV13 dc13 pm13 cd13 ct13 : Value}
    (qa13 : PySem.W.nsIn K mainGlobals "_law_spoilt" = some (some (.ref f13))) (ql13 : K.lookup f13 = some ⟨oc13, od13, .func (PySem.W.fnOf "_law_spoilt" "_law_spoilt" (defArgs s_law_spoilt) (defBody s_law_spoilt) (defScope s_law_spoilt) .none kV13 dc13 pm13 an13 cd13 ct13), sl13⟩) (qc13 : PySem.W.codeIn K cd13 "_law_spoilt" = true) (qk13 : PySem.W.keepIn K (.ref f13) = true)
    {f14 : Addr} {od14 an14 : Option Addr} {sl14 : Array (Option Value)} {oc14 kV14 dc14 pm14 cd14 ct14 : Value}
    (qa14 : PySem.W.nsIn K mainGlobals "_law_is_right" = some (some (.ref f14))) (ql14 : K.lookup f14 = some ⟨oc14, od14, .func (PySem.W.fnOf "_law_is_right" "_law_is_right" (defArgs s_law_is_right) (defBody s_law_is_right) (defScope s_law_is_right) .none kV14 dc14 pm14 an14 cd14 ct14), sl14⟩) (qc14 : PySem.W.codeIn K cd14 "_law_is_right" = true) (qk14 : PySem.W.keepIn K (.ref f14) = true)
    {f15 : Addr} {od15 an15 : Option Addr} {sl15 : Array (Option Value)} {oc15 kV15 dc15 pm15 cd15 ct15 : Value}
    (qa15 : PySem.W.nsIn K mainGlobals "law" = some (some (.ref f15))) (ql15 : K.lookup f15 = some ⟨oc15, od15, .func (PySem.W.fnOf "law" "law" (defArgs s_law) (defBody s_law) (defScope s_law) .none kV15 dc15 pm15 an15 cd15 ct15), sl15⟩) (qc15 : PySem.W.codeIn K cd15 "law" = true) (qk15 : PySem.W.keepIn K (.ref f15) = true)
    (qz0 : PySem.W.nsIn K mainGlobals "len" = some none)
    (qz1 : PySem.W.nsIn K mainGlobals "tuple" = some none)
    (qz2 : PySem.W.nsIn K mainGlobals "range" = some none)
    (qz3 : PySem.W.nsIn K mainGlobals "abs" = some none)
    (qz4 : PySem.W.nsIn K mainGlobals "int" = some none)
    (qz5 : PySem.W.nsIn K mainGlobals "isinstance" = some none)
    (qz6 : PySem.W.nsIn K mainGlobals "str" = some none)
    (qz7 : PySem.W.nsIn K mainGlobals "ValueError" = some none)
    (qz8 : PySem.W.nsIn K mainGlobals "bool" = some none)
    {gt0 : Tok} (qg0 : PySem.W.nsIn K mainGlobals "LETTERS" = some (some (.str "abcdefghijklmnopqrstuvwxyz" gt0)))
    {gt1 : Tok} (qg1 : PySem.W.nsIn K mainGlobals "MOST_SIGNS" = some (some (.int 12 gt1)))
    {gt2 : Tok} (qg2 : PySem.W.nsIn K mainGlobals "FIGURES" = some (some (.str "0123456789" gt2)))
    {gt3 : Tok} (qg3 : PySem.W.nsIn K mainGlobals "BETWEEN" = some (some (.str " \n" gt3)))
    {CZ0 fZ0 gZ0 : Addr} {nmZ0 qZ0 : Str} {NZ0 : Addr} {bsZ0 : List Value} {snZ0 : List Str} {subZ0 : List Value} {abZ0 : Bool} {colZ0 : Option Bool} {ddZ0 : Option Addr} {m0Z0 m1Z0 m2Z0 m3Z0 m5Z0 : Option Value} {odZ0 anZ0 : Option Addr} {slZ0 : Array (Option Value)} {ocZ0 dcZ0 pmZ0 cdZ0 ctZ0 : Value} {p1Z0 p2Z0 q1Z0 q2Z0 q3Z0 q4Z0 : Pos} (qAZ0 : PySem.W.nsIn K mainGlobals "BadText" = some (some (.ref CZ0))) (qBZ0 : K.lookup CZ0 = some (excClassObj nmZ0 qZ0 CZ0 NZ0 bsZ0 [.ref gZ0, .type "ValueError", .type "Exception", .type "BaseException", .type "object"] true snZ0 subZ0 abZ0 colZ0 ddZ0 m0Z0 m1Z0 m2Z0 m3Z0 m5Z0 "ValueError.__new__")) (qCZ0 : PySem.W.findIn K (.ref CZ0) "__setattr__" = some (some (.builtin "object.__setattr__"))) (qDZ0 : PySem.W.findIn K (.ref CZ0) "__getattribute__" = some (some (.builtin "BaseException.__getattribute__"))) (qEZ0 : PySem.W.findIn K (.ref CZ0) "__getattr__" = some none) (qFZ0 : PySem.W.findIn K (.ref CZ0) "place" = some none) (qGZ0 : PySem.W.findIn K (.ref CZ0) "__init__" = some (some (.ref fZ0))) (qHZ0 : PySem.W.typeIn K (.ref fZ0) = some (.type "function")) (qIZ0 : K.lookup fZ0 = some ⟨ocZ0, odZ0, .func (PySem.W.fnOf "__init__" "BadText.__init__" (PySem.EX_BadText.iA p1Z0 p2Z0) (PySem.EX_BadText.iB q1Z0 q2Z0 q3Z0 q4Z0) PySem.EX_BadText.iS .none .none dcZ0 pmZ0 anZ0 cdZ0 ctZ0), slZ0⟩) (qJZ0 : PySem.W.codeIn K cdZ0 "BadText.__init__" = true) (qKZ0 : PySem.W.keepIn K (.ref CZ0) = true) (qLZ0 : PySem.W.subIn K (.ref CZ0) (.type "BaseException") = some true) (qMZ0 : PySem.W.typeIn K (.ref CZ0) = some (.type "type")) (qNZ0 : PySem.W.hasDictIn K CZ0 = true) (qOZ0 : PySem.W.isClsIn K CZ0 = true) (qPZ0 : PySem.W.subIn K (.ref CZ0) (.ref CZ0) = some true)
    (rB0 : PySem.W.isClsIn K CZ0 = true)
    (rC0 : PySem.W.hasDictIn K CZ0 = true)
    (rD0 : PySem.W.typeIn K (.ref CZ0) = some (.type "type"))
    (rE0 : PySem.W.subIn K (.ref CZ0) (.type "BaseException") = some true)
    {CN1 : Addr}
    (rA1 : PySem.W.nsIn K mainGlobals "BadProgram" = some (some (.ref CN1)))
    (rB1 : PySem.W.isClsIn K CN1 = true)
    (rC1 : PySem.W.hasDictIn K CN1 = true)
    (rD1 : PySem.W.typeIn K (.ref CN1) = some (.type "type"))
    (rE1 : PySem.W.subIn K (.ref CN1) (.type "BaseException") = some true)
    {CN2 : Addr}
    (rA2 : PySem.W.nsIn K mainGlobals "GlassError" = some (some (.ref CN2)))
    (rB2 : PySem.W.isClsIn K CN2 = true)
    (rC2 : PySem.W.hasDictIn K CN2 = true)
    (rD2 : PySem.W.typeIn K (.ref CN2) = some (.type "type"))
    (rE2 : PySem.W.subIn K (.ref CN2) (.type "BaseException") = some true)
    (rF0_0 : PySem.W.findIn K (.ref CZ0) "__getattribute__" = some (some (.builtin "BaseException.__getattribute__")))
    (rF0_1 : PySem.W.findIn K (.ref CZ0) "__getattr__" = some none)
    (rF0_2 : PySem.W.subIn K (.ref CZ0) (.type "BaseException") = some true)
    (rF0_3 : PySem.W.hasDictIn K CZ0 = true)
    (rF0_4 : PySem.W.findIn K (.ref CZ0) "__class__" = some (some (.builtin "object.__class__")))
    (rF0_5 : PySem.W.specialIn K (.builtin "object.__class__") "__get__" = some (some (.builtin "getset_descriptor.__get__")))
    (rF0_6 : PySem.W.takesIn K (.builtin "object.__class__") = some true)
    (rF0_7 : PySem.W.mroIn K CZ0 (.type "object") = some true)
    (rF0_8 : PySem.W.subIn K (.ref CZ0) (.ref CZ0) = some true)
    (rG0 : PySem.W.subIn K (.ref CZ0) (.ref CZ0) = some true)
    (rG1 : PySem.W.subIn K (.ref CZ0) (.ref CN1) = some false)
    (rG2 : PySem.W.subIn K (.ref CZ0) (.ref CN2) = some true)
    (rG3 : PySem.W.subIn K (.ref CZ0) (.type "ValueError") = some true) : Top K mg := by
  have F0 := fun_mk (st := s_behind_run) ql0 qc0 qk0
  have b0 := F0.binds (ps := ["text", "start", "signs"]) fun _ _ _ _ _ _ us hl => match us, hl with | [_, _, _], _ => rfl
  have F1 := fun_mk (st := s_behind_word) ql1 qc1 qk1
  have b1 := F1.binds (ps := ["text", "start"]) fun _ _ _ _ _ _ us hl => match us, hl with | [_, _], _ => rfl
  have F2 := fun_mk (st := s_read_value) ql2 qc2 qk2
  have b2 := F2.binds (ps := ["text"]) fun _ _ _ _ _ _ us hl => match us, hl with | [_], _ => rfl
  have F3 := fun_mk (st := s_law_draws) ql3 qc3 qk3
  have b3 := F3.binds (ps := ["_law_script", "_law_many"]) fun _ _ _ _ _ _ us hl => match us, hl with | [_, _], _ => rfl
  have F4 := fun_mk (st := s_law_take) ql4 qc4 qk4
  have b4 := F4.binds (ps := ["_law_hand", "_law_many"]) fun _ _ _ _ _ _ us hl => match us, hl with | [_, _], _ => rfl
  have F5 := fun_mk (st := s_law_word) ql5 qc5 qk5
  have b5 := F5.binds (ps := ["_law_hand"]) fun _ _ _ _ _ _ us hl => match us, hl with | [_], _ => rfl
  have F6 := fun_mk (st := s_law_value) ql6 qc6 qk6
  have b6 := F6.binds (ps := ["_law_hand", "_law_depth"]) fun _ _ _ _ _ _ us hl => match us, hl with | [_, _], _ => rfl
  have F7 := fun_mk (st := s_law_text) ql7 qc7 qk7
  have b7 := F7.binds (ps := ["_law_value_here"]) fun _ _ _ _ _ _ us hl => match us, hl with | [_], _ => rfl
  have F8 := fun_mk (st := s_law_deep) ql8 qc8 qk8
  have b8 := F8.binds (ps := ["_law_hand", "_law_inner"]) fun _ _ _ _ _ _ us hl => match us, hl with | [_, _], _ => rfl
  have F9 := fun_mk (st := s_law_like) ql9 qc9 qk9
  have b9 := F9.binds (ps := ["_law_found", "_law_expected"]) fun _ _ _ _ _ _ us hl => match us, hl with | [_, _], _ => rfl
  have F10 := fun_mk (st := s_law_run_end) ql10 qc10 qk10
  have b10 := F10.binds (ps := ["_law_text_here", "_law_at"]) fun _ _ _ _ _ _ us hl => match us, hl with | [_, _], _ => rfl
  have F11 := fun_mk (st := s_law_read) ql11 qc11 qk11
  have b11 := F11.binds (ps := ["_law_text_here"]) fun _ _ _ _ _ _ us hl => match us, hl with | [_], _ => rfl
  have F12 := fun_mk (st := s_law_piece) ql12 qc12 qk12
  have b12 := F12.binds (ps := ["_law_hand"]) fun _ _ _ _ _ _ us hl => match us, hl with | [_], _ => rfl
  have F13 := fun_mk (st := s_law_spoilt) ql13 qc13 qk13
  have b13 := F13.binds (ps := ["_law_hand", "_law_text_here"]) fun _ _ _ _ _ _ us hl => match us, hl with | [_, _], _ => rfl
  have F14 := fun_mk (st := s_law_is_right) ql14 qc14 qk14
  have b14 := F14.binds (ps := ["_law_text_here"]) fun _ _ _ _ _ _ us hl => match us, hl with | [_], _ => rfl
  have F15 := fun_mk (st := s_law) ql15 qc15 qk15
  have b15 := F15.binds (ps := ["_law_script"]) fun _ _ _ _ _ _ us hl => match us, hl with | [_], _ => rfl
  exact { a_behind_run := _, d_behind_run := _, F_behind_run := F0, b_behind_run := b0, m_behind_run := PySem.W.mg_of X G qa0, a_behind_word := _, d_behind_word := _, F_behind_word := F1, b_behind_word := b1, m_behind_word := PySem.W.mg_of X G qa1, a_read_value := _, d_read_value := _, F_read_value := F2, b_read_value := b2, m_read_value := PySem.W.mg_of X G qa2, a_law_draws := _, d_law_draws := _, F_law_draws := F3, b_law_draws := b3, m_law_draws := PySem.W.mg_of X G qa3, a_law_take := _, d_law_take := _, F_law_take := F4, b_law_take := b4, m_law_take := PySem.W.mg_of X G qa4, a_law_word := _, d_law_word := _, F_law_word := F5, b_law_word := b5, m_law_word := PySem.W.mg_of X G qa5, a_law_value := _, d_law_value := _, F_law_value := F6, b_law_value := b6, m_law_value := PySem.W.mg_of X G qa6, a_law_text := _, d_law_text := _, F_law_text := F7, b_law_text := b7, m_law_text := PySem.W.mg_of X G qa7, a_law_deep := _, d_law_deep := _, F_law_deep := F8, b_law_deep := b8, m_law_deep := PySem.W.mg_of X G qa8, a_law_like := _, d_law_like := _, F_law_like := F9, b_law_like := b9, m_law_like := PySem.W.mg_of X G qa9, a_law_run_end := _, d_law_run_end := _, F_law_run_end := F10, b_law_run_end := b10, m_law_run_end := PySem.W.mg_of X G qa10, a_law_read := _, d_law_read := _, F_law_read := F11, b_law_read := b11, m_law_read := PySem.W.mg_of X G qa11, a_law_piece := _, d_law_piece := _, F_law_piece := F12, b_law_piece := b12, m_law_piece := PySem.W.mg_of X G qa12, a_law_spoilt := _, d_law_spoilt := _, F_law_spoilt := F13, b_law_spoilt := b13, m_law_spoilt := PySem.W.mg_of X G qa13, a_law_is_right := _, d_law_is_right := _, F_law_is_right := F14, b_law_is_right := b14, m_law_is_right := PySem.W.mg_of X G qa14, a_law := _, d_law := _, F_law := F15, b_law := b15, m_law := PySem.W.mg_of X G qa15, n_len := PySem.W.mg_none_of X G qz0, n_tuple := PySem.W.mg_none_of X G qz1, n_range := PySem.W.mg_none_of X G qz2, n_abs := PySem.W.mg_none_of X G qz3, n_int := PySem.W.mg_none_of X G qz4, n_isinstance := PySem.W.mg_none_of X G qz5, n_str := PySem.W.mg_none_of X G qz6, n_ValueError := PySem.W.mg_none_of X G qz7, n_bool := PySem.W.mg_none_of X G qz8, t_LETTERS := gt0, c_LETTERS := PySem.W.mg_of X G qg0, t_MOST_SIGNS := gt1, c_MOST_SIGNS := PySem.W.mg_of X G qg1, t_FIGURES := gt2, c_FIGURES := PySem.W.mg_of X G qg2, t_BETWEEN := gt3, c_BETWEEN := PySem.W.mg_of X G qg3, C_BadText := CZ0, i_BadText := fZ0, x_BadText := { gC := PySem.W.mg_of X G qAZ0, cls := ⟨_, _, _, _, _, _, _, _, _, _, _, _, _, _, _, qBZ0, by first | rfl | decide +kernel⟩, sa := qCZ0, ga := qDZ0, gg := qEZ0, noN := qFZ0, iC := qGZ0, tC := qHZ0, kC := qKZ0, exC := qLZ0, tyC := qMZ0, hdC := qNZ0, te := OG.exm_own qLZ0 qOZ0 qMZ0 qPZ0, fn := ⟨_, _, _, _, _, _, _, _, _, _, _, _, _, _, qIZ0, qJZ0⟩ }, gn_BadText := PySem.W.mg_of X G qAZ0, C_BadProgram := CN1, gn_BadProgram := PySem.W.mg_of X G rA1, C_GlassError := CN2, gn_GlassError := PySem.W.mg_of X G rA2, ec_BadText := ⟨rF0_0, rF0_1, rF0_2, rF0_3, rF0_4, rF0_5, rF0_6, rF0_7⟩, em_BadText_BadText := PySem.W.exm_ref rE0 rC0 rD0 rG0, ki_BadText_BadProgram := kit_own rB1 rD1 rG1 rF0_8, ki_BadText_GlassError := kit_own rB2 rD2 rG2 rF0_8, ki_BadText_ValueError := kit_ty' (by decide +kernel) rG3 }
/-! ### behind_run, behind_word, write_value -/
theorem twl {p : Nat → Bool} {l : List Nat} {e : Nat} {c : Nat} (h : l[e]? = some c) : ((l.drop e).takeWhile p).length = if p c = true then ((l.drop (e + 1)).takeWhile p).length + 1 else 0 := by
  have he : e < l.length := (List.getElem?_eq_some_iff.mp h).1
  have hc : l[e] = c := (List.getElem?_eq_some_iff.mp h).2
  rw [List.drop_eq_getElem_cons he, hc, List.takeWhile_cons]
  split <;> simp
abbrev runS (sg : Str) (n : Nat) (z : Str) : Nat := ((z.cps.toList.drop n).takeWhile (fun c => decide (c ∈ sg.cps.toList))).length
def spRun : Sp := fun vs H Q _ => ∃ (z sg : Str) (n : Nat), vs = [.str z, .int (n : Int), .str sg] ∧ n ≤ z.length ∧ z.length ≤ 10000000 ∧ Q (.int ((n + runS sg n z : Nat) : Int)) H
theorem ok_behind_run {P : Program} {w : World} {K : PySem.W.Frag} {mg : Str → Option Value} {base : Heap} (T : Top K mg) {k : Nat} : FnOk P w K mg base CX0 (k + 1) T.a_behind_run T.d_behind_run ["text", "start", "signs"] spRun := by
  refine T.F_behind_run.ok sc_behind_run (fun vs H Q E h => ?_) (fun cdv A outer s H vs Q E hr h => ?_)
  · obtain ⟨z, sg, n, rfl, _⟩ := h
    rfl
  obtain ⟨z, sg, n, rfl, hn, hz, q⟩ := h
  have hzl : z.length ≤ sizeLine := Nat.le_trans hz (by decide)
  refine ⟨_, (pss_cons (ps_set (i := 3) sc_behind_run.nd rfl (Or.inl rfl) (pv 1))
    (pss_cons (ps_while PassesOwn.never (PW.pt (pw_and (pt_cmpR op_lt (pv 3) (pe_callB call_len_str rfl T.n_len bo_len (pa_cons (pv 0) pa_nil)) (nomark _)) (pw_and1 (pt_cmpR op_in_sign (pe_ix ix_str (pv 0) (pv 3) (fun _ _ => rfl)) (pv 2) rfl)))) (pss_one (ps_aug (i := 3) sc_behind_run.nd rfl (Or.inl rfl) pe_int ip_add)))
    (pss_one (ps_ret (pv 3))))), ?_⟩
  refine ⟨_, rfl, ?_⟩
  refine ⟨fun m σ H' => ∃ e : Nat, σ = [some (.str z), some (.int n), some (.str sg), some (.int e)] ∧ H' = H ∧ e ≤ z.length ∧ m = z.length - e ∧ n + runS sg n z = e + runS sg e z, ⟨_, n, rfl, rfl, hn, rfl, rfl⟩, ?_⟩
  rintro m σ H' ⟨e, rfl, rfl, he, rfl, hrun⟩
  refine ⟨_, rfl, _, rfl, z, rfl, hzl, _, _, rfl, rfl, _, rfl, ?_⟩
  by_cases c : e < z.length
  · have c1 : decide ((e : Int) < (z.length : Int)) = true := decide_eq_true (by omega)
    rw [c1]
    have hl : e < z.cps.toList.length := by rw [slen]; exact c
    have g1 : z.cps.toList[e]? = some z.cps.toList[e] := List.getElem?_eq_getElem hl
    refine ⟨_, rfl, _, rfl, z, (e : Int), _, rfl, rfl, hzl, atI_nat g1, _, rfl, _, sg, rfl, rfl, _, rfl, ?_⟩
    have tw := twl (p := fun c => decide (c ∈ sg.cps.toList)) g1
    by_cases c2 : z.cps.toList[e] ∈ sg.cps.toList
    · rw [decide_eq_true c2]
      rw [decide_eq_true c2, if_pos rfl] at tw
      have tw' : runS sg e z = runS sg (e + 1) z + 1 := tw
      refine ⟨fun σ' H2 => ∃ e2 : Nat, σ' = [some (.str z), some (.int n), some (.str sg), some (.int e2)] ∧ H2 = H' ∧ e2 ≤ z.length ∧ z.length - e2 < z.length - e ∧ n + runS sg n z = e2 + runS sg e2 z, ?_, ?_⟩
      · rintro σ' H2 ⟨e2, rfl, rfl, h1, h2, h3⟩
        exact ⟨_, h2, e2, rfl, rfl, h1, rfl, h3⟩
      · exact ⟨_, rfl, _, _, rfl, rfl, e + 1, rfl, rfl, by omega, by omega, by omega⟩
    · rw [decide_eq_false c2]
      rw [decide_eq_false c2] at tw
      refine ⟨_, rfl, ?_⟩
      have e2 : runS sg e z = 0 := by simpa using tw
      rw [hrun, e2] at q
      exact q
  · have c1 : decide ((e : Int) < (z.length : Int)) = false := decide_eq_false (by omega)
    rw [c1]
    refine ⟨_, rfl, ?_⟩
    have e2 : runS sg e z = 0 := by
      have : z.cps.toList.drop e = [] := List.drop_eq_nil_of_le (by rw [slen]; omega)
      unfold runS; rw [this]; rfl
    rw [hrun, e2] at q
    exact q


/-! #### behind_word, read_value: where the text is right -/
theorem c_low : ("abcdefghijklmnopqrstuvwxyz" : Str) = lowS := rfl
def spWord : Sp := fun vs H Q _ => ∃ (z : Str) (n c : Nat) (r : List Nat), vs = [.str z, .int (n : Int)] ∧ z.length ≤ 10000000 ∧ z.cps.toList.drop n = c :: r ∧ low c = true ∧ ((c :: r).takeWhile alnum).length ≤ 12 ∧ Q (.int ((n + ((c :: r).takeWhile alnum).length : Nat) : Int)) H
theorem drop_at {l : List Nat} {n c : Nat} {r : List Nat} (h : l.drop n = c :: r) : l[n]? = some c ∧ n < l.length ∧ l.drop (n + 1) = r := by
  have hn : n < l.length := by
    rcases Nat.lt_or_ge n l.length with g | g
    · exact g
    · rw [List.drop_eq_nil_of_le g] at h; cases h
  have e := List.drop_eq_getElem_cons hn
  rw [h] at e
  have e1 := (List.cons.inj e).1
  have e2 := (List.cons.inj e).2
  exact ⟨by rw [List.getElem?_eq_getElem hn, e1], hn, e2.symm⟩

/-! ### behind_word, with its errors -/
/-- the error of this place: its own dict is new -/
abbrev badAt (C : Addr) (E : XK) (H : Hp) (p : Int) : Prop := ∀ d, H d = none → E (.ref C) (some d) (upd H d (.xd [("place", .int p)]))
def spWordX (C : Addr) : Sp := fun vs H Q E => ∃ (z : Str) (n : Nat) (c : Nat) (r : List Nat), vs = [.str z, .int (n : Int)] ∧ z.length ≤ 10000000 ∧ z.cps.toList.drop n = c :: r ∧
  (low c = false → badAt C E H n) ∧ (low c = true → 12 < ((c :: r).takeWhile alnum).length → badAt C E H ((n : Int) + 12)) ∧
  (low c = true → ((c :: r).takeWhile alnum).length ≤ 12 → Q (.int ((n + ((c :: r).takeWhile alnum).length : Nat) : Int)) H)
theorem ok_behind_wordX {P : Program} {w : World} {K : PySem.W.Frag} {mg : Str → Option Value} {base : Heap} (T : Top K mg) {k : Nat} (G_behind_run : FnOk P w K mg base CX0 1 T.a_behind_run T.d_behind_run ["text", "start", "signs"] spRun) : FnOk P w K mg base (L2.CX P w) (k + 3) T.a_behind_word T.d_behind_word ["text", "start"] (spWordX T.C_BadText) := by
  refine T.F_behind_word.okX sc_behind_word (fun vs H Q E h => ?_) (fun cdv A outer s H vs Q E hr h => ?_)
  · obtain ⟨z, n, c, r, rfl, _⟩ := h
    rfl
  obtain ⟨z, n, c, r, rfl, hz, hd, e1, e2, q⟩ := h
  have hzl : z.length ≤ sizeLine := Nat.le_trans hz (by decide)
  obtain ⟨g1, hn, _⟩ := drop_at hd
  rw [slen] at hn
  refine ⟨_, (pss_cons (ps_if (pt_cmpR op_notIn_sign (pe_ix ix_str (pv 0) (pv 1) (fun _ _ => rfl)) (pe_glob (v := .str "abcdefghijklmnopqrstuvwxyz") rfl T.c_LETTERS ⟨_, rfl⟩) rfl) (pss_one (ps_raiseBadText rfl T.x_BadText hr (takes_of rfl rfl rfl rfl) (by exact (pa_cons (pv 1) pa_nil)))) pss_nil)
    (pss_cons (ps_set (i := 2) sc_behind_word.nd rfl (Or.inl rfl) (pe_call G_behind_run (hr.mono (by omega)) rfl T.m_behind_run T.F_behind_run.kp T.b_behind_run .nil pass0 (pa_cons (pv 0) (pa_cons (pv 1) (pa_cons (pe_op op_add_str (pe_glob (v := .str "abcdefghijklmnopqrstuvwxyz") rfl T.c_LETTERS ⟨_, rfl⟩) (pe_glob (v := .str "0123456789") rfl T.c_FIGURES ⟨_, rfl⟩)) pa_nil)))))
    (pss_cons (ps_if (pt_cmpR op_gt (pe_op op_sub (pv 2) (pv 1)) (pe_glob (v := .int 12) rfl T.c_MOST_SIGNS ⟨_, rfl⟩) (nomark _)) (pss_one (ps_raiseBadText rfl T.x_BadText hr (takes_of rfl rfl rfl rfl) (by exact (pa_cons (pe_op op_add (pv 1) (pe_glob (v := .int 12) rfl T.c_MOST_SIGNS ⟨_, rfl⟩)) pa_nil)))) pss_nil)
    (pss_one (ps_ret (pv 2)))))), ?_⟩
  refine ⟨_, rfl, _, rfl, z, (n : Int), c, rfl, rfl, hzl, atI_nat g1, c, lowS, rfl, rfl, _, rfl, ?_⟩
  cases hl : low c with
  | false =>
    have hc : decide (c ∈ lowS.cps.toList) = false := hl
    rw [hc]
    exact ⟨_, rfl, _, rfl, fun d hd => e1 hl d hd⟩
  | true =>
  have hc : decide (c ∈ lowS.cps.toList) = true := hl
  rw [hc]
  refine ⟨_, rfl, _, rfl, lowS, figS, rfl, rfl, by decide +kernel, z, lowS ++ figS, n, rfl, Nat.le_of_lt hn, hz, ?_⟩
  have er : runS (lowS ++ figS) n z = ((c :: r).takeWhile alnum).length := by
    unfold runS; rw [hd]; rfl
  rw [er]
  refine ⟨_, rfl, _, rfl, _, _, rfl, rfl, _, _, rfl, rfl, _, rfl, ?_⟩
  by_cases h12 : ((c :: r).takeWhile alnum).length ≤ 12
  · have c2 : decide ((12 : Int) < ((n + ((c :: r).takeWhile alnum).length : Nat) : Int) - (n : Int)) = false := decide_eq_false (by omega)
    rw [c2]
    exact ⟨_, rfl, q hl h12⟩
  · have c2 : decide ((12 : Int) < ((n + ((c :: r).takeWhile alnum).length : Nat) : Int) - (n : Int)) = true := decide_eq_true (by omega)
    rw [c2]
    exact ⟨_, rfl, _, _, rfl, rfl, _, rfl, fun d hd => e2 hl (by omega) d hd⟩

/-- the open lists: addresses and trees, the first one first -/
structure Stk (K : PySem.W.Frag) (H' : Hp) (O : Addr) (as : List Addr) (st : List (List Tr)) : Prop where
  op : H' O = some (.lst (as.map V.ref))
  pr : Paired (fun a ts => ∃ vs, H' a = some (.lst vs) ∧ IsTs K H' ts vs) as st
  nd : as.Nodup
  no : O ∉ as
theorem Stk.get {K : PySem.W.Frag} {H' : Hp} {O : Addr} {as : List Addr} {st : List (List Tr)} (h : Stk K H' O as st) : ∀ a ∈ as, ∃ vs, H' a = some (.lst vs) := fun a ha => by
  have : ∀ {as : List Addr} {st : List (List Tr)}, Paired (fun a ts => ∃ vs, H' a = some (.lst vs) ∧ IsTs K H' ts vs) as st → a ∈ as → ∃ vs, H' a = some (.lst vs) := by
    intro as st p
    induction p with
    | nil => intro h; cases h
    | cons f t ih =>
      intro h
      rcases List.mem_cons.mp h with e | e
      · subst e; obtain ⟨vs, e, _⟩ := f; exact ⟨vs, e⟩
      · exact ih e
  exact this h.pr ha
/-- a value behind the items of the last list -/
theorem Stk.app {K : PySem.W.Frag} {H' : Hp} {O : Addr} {as : List Addr} {a : Addr} {st : List (List Tr)} {top : List Tr} {vs : List V} {v : V} {t : Tr} (h : Stk K H' O (as ++ [a]) (st ++ [top])) (ha : H' a = some (.lst vs)) (hv : IsT K H' t v) :
    Stk K (upd H' a (.lst (vs ++ [v]))) O (as ++ [a]) (st ++ [top ++ [t]]) := by
  have tk : TK K H' (upd H' a (.lst (vs ++ [v]))) := TK.put (mut_lst ha)
  have na : a ∉ as := fun z => by
    have := List.nodup_append.mp h.nd
    exact this.2.2 a z a (List.mem_singleton.mpr rfl) rfl
  have nO : O ≠ a := fun e => h.no (by rw [e]; simp)
  obtain ⟨as', a', bs', b', e1, e2, p, f⟩ := paired_last h.pr (by simp)
  have e3 := List.append_inj' e1 rfl
  have e4 := List.append_inj' e2 rfl
  obtain ⟨rfl, ea⟩ := e3
  obtain ⟨rfl, eb⟩ := e4
  have ea' : a = a' := (List.cons.inj ea).1
  have eb' : top = b' := (List.cons.inj eb).1
  subst ea' eb'
  obtain ⟨us, g1, g2⟩ := f
  rw [ha] at g1
  cases g1
  refine ⟨by rw [upd_ne nO]; exact h.op, paired_snoc ?_ ⟨_, upd_same, (g2.tk tk).snoc (hv.tk tk)⟩, h.nd, h.no⟩
  have key : ∀ {as : List Addr} {st : List (List Tr)}, Paired (fun a ts => ∃ vs, H' a = some (.lst vs) ∧ IsTs K H' ts vs) as st → a ∉ as → Paired (fun b ts => ∃ us, (upd H' a (.lst (vs ++ [v]))) b = some (.lst us) ∧ IsTs K (upd H' a (.lst (vs ++ [v]))) ts us) as st := by
    intro as st p
    induction p with
    | nil => intro _; exact .nil
    | cons f t ih =>
      intro h
      obtain ⟨us, e, i⟩ := f
      refine .cons ⟨us, by rw [upd_ne (fun z => h (by rw [z]; exact List.mem_cons_self))]; exact e, i.tk tk⟩ (ih fun z => h (List.mem_cons_of_mem _ z))
  exact key p na
theorem Stk.same {K : PySem.W.Frag} {H1 H2 : Hp} {O : Addr} {as : List Addr} {st : List (List Tr)} (h : Stk K H1 O as st) (k : Same H1 H2) : Stk K H2 O as st :=
  ⟨k _ _ h.op, paired_mono (fun a ts ⟨vs, e, i⟩ => ⟨vs, k _ _ e, i.tk (TK.same k)⟩) h.pr, h.nd, h.no⟩
/-- the outer list changes -/
theorem Stk.outer {K : PySem.W.Frag} {H1 : Hp} {O : Addr} {as bs : List Addr} {st ts : List (List Tr)} (h : Stk K H1 O as st) (p : Paired (fun a ts => ∃ vs, H1 a = some (.lst vs) ∧ IsTs K H1 ts vs) bs ts) (nd : bs.Nodup) (no : O ∉ bs) :
    Stk K (upd H1 O (.lst (bs.map V.ref))) O bs ts := by
  have tk : TK K H1 (upd H1 O (.lst (bs.map V.ref))) := TK.put (mut_lst h.op)
  refine ⟨upd_same, ?_, nd, no⟩
  have key : ∀ {as : List Addr} {st : List (List Tr)}, Paired (fun a ts => ∃ vs, H1 a = some (.lst vs) ∧ IsTs K H1 ts vs) as st → O ∉ as → Paired (fun b ts => ∃ us, (upd H1 O (.lst (bs.map V.ref))) b = some (.lst us) ∧ IsTs K (upd H1 O (.lst (bs.map V.ref))) ts us) as st := by
    intro as st p
    induction p with
    | nil => intro _; exact .nil
    | cons f t ih =>
      intro h
      obtain ⟨us, e, i⟩ := f
      refine .cons ⟨us, by rw [upd_ne (fun z => h (by rw [z]; exact List.mem_cons_self))]; exact e, i.tk tk⟩ (ih fun z => h (List.mem_cons_of_mem _ z))
  exact key p no

/-! #### read_value, with its errors -/
def spReadX (K : PySem.W.Frag) (C : Addr) : Sp := fun vs H Q E => ∃ (z : Str) (R : Except Nat Tr), vs = [.str z] ∧ z.length ≤ 10000000 ∧ rd z.length (z.length + 1) [[]] (skip z.cps.toList) = R ∧
  (∀ t, R = .ok t → ∀ (H' : Hp) (v : V), Same H H' → IsT K H' t v → Q v H') ∧ ∀ p : Nat, R = .error p → ∀ H' : Hp, Same H H' → badAt C E H' p
theorem run_bet {z : Str} {n : Nat} : z.cps.toList.drop (n + runS betS n z) = skip (z.cps.toList.drop n) := by
  unfold skip
  rw [drop_tw, List.drop_drop]
  rfl
theorem run_le {sg z : Str} {n : Nat} (h : n ≤ z.length) : n + runS sg n z ≤ z.length := by
  have := tw_le (fun c => decide (c ∈ sg.cps.toList)) (z.cps.toList.drop n)
  rw [List.length_drop, slen] at this
  unfold runS; omega
theorem last_ix {xs : List V} {v : V} : atI (xs ++ [v]) (-1) = some v := atI_last xs v
theorem ok_read_valueX {P : Program} {w : World} {K : PySem.W.Frag} {mg : Str → Option Value} {base : Heap} (T : Top K mg) {k : Nat} (G_behind_run : FnOk P w K mg base CX0 1 T.a_behind_run T.d_behind_run ["text", "start", "signs"] spRun)
    (G_behind_word : FnOk P w K mg base (L2.CX P w) 3 T.a_behind_word T.d_behind_word ["text", "start"] (spWordX T.C_BadText)) : FnOk P w K mg base (L2.CX P w) (k + 4) T.a_read_value T.d_read_value ["text"] (spReadX K T.C_BadText) := by
  refine T.F_read_value.okX sc_read_value (fun vs H Q E h => ?_) (fun cdv A outer s H vs Q E hr h => ?_)
  · obtain ⟨z, t, rfl, _⟩ := h
    rfl
  obtain ⟨z, R, rfl, hz, hrd, qo, qe⟩ := h
  have hzl : z.length ≤ sizeLine := Nat.le_trans hz (by decide)
  refine ⟨_, (pss_cons (ps_set (i := 1) sc_read_value.nd rfl (Or.inl rfl) (pe_lst (pa_cons (pe_lst pa_nil) pa_nil)))
    (pss_cons (ps_set (i := 2) sc_read_value.nd rfl (Or.inl rfl) (pe_call G_behind_run (hr.mono (by omega)) rfl T.m_behind_run T.F_behind_run.kp T.b_behind_run .nil pass0 (pa_cons (pv 0) (pa_cons pe_int (pa_cons (pe_glob (v := .str " \n") rfl T.c_BETWEEN ⟨_, rfl⟩) pa_nil)))))
    (pss_cons (ps_while (passes_of rfl) (pt_cmpR op_lt (pv 2) (pe_callB call_len_str rfl T.n_len bo_len (pa_cons (pv 0) pa_nil)) (nomark _)) (pss_cons (ps_set (i := 3) sc_read_value.nd rfl (Or.inl rfl) (pe_op op_add (pv 2) pe_int))
    (C8.pss_cut (ps_if (PW.pt (pw_and (pt_cmpR op_eq (pe_callB call_len_seq rfl T.n_len bo_len (pa_cons (pv 1) pa_nil)) pe_int (nomark _)) (pw_and1 (pt_cmpR op_gt (pe_callB call_len_seq rfl T.n_len bo_len (pa_cons (pe_ix ix_list (pv 1) pe_int (fun _ _ => rfl)) pa_nil)) pe_int (nomark _))))) (pss_one (ps_raiseBadText rfl T.x_BadText hr (takes_of rfl rfl rfl rfl) (by exact (pa_cons (pv 2) pa_nil)))) pss_nil)
    (C8.pss_cut (ps_if (pt_cmpR op_eq (pe_ix ix_str (pv 0) (pv 2) (fun _ _ => rfl)) pe_str (nomark _)) (pss_one (ps_expr (pe_bm PySem.F.plainAttrs_list PySem.F.slot_list_append PySem.F.type_list_append mt_append (pv 1) (pa_cons (pe_lst pa_nil) pa_nil)))) (pss_one (ps_if (PW.pt (pw_and (pt_cmpR op_eq (pe_ix ix_str (pv 0) (pv 2) (fun _ _ => rfl)) pe_str (nomark _)) (pw_and1 (pt_cmpR op_gt (pe_callB call_len_seq rfl T.n_len bo_len (pa_cons (pv 1) pa_nil)) pe_int (nomark _))))) (pss_cons (ps_set (i := 4) sc_read_value.nd rfl (Or.inl rfl) (pe_bm0 PySem.F.plainAttrs_list PySem.F.slot_list_pop PySem.F.type_list_pop mt_pop (pv 1)))
    (pss_one (ps_expr (pe_bm PySem.F.plainAttrs_list PySem.F.slot_list_append PySem.F.type_list_append mt_append (pe_ix ix_list (pv 1) (pe_un un_neg pe_int) (fun _ _ => rfl)) (pa_cons (pe_callTy call_tuple_of rfl T.n_tuple bo_tuple (pa_cons (pv 4) pa_nil)) pa_nil))))) (pss_cons (ps_set (i := 3) sc_read_value.nd rfl (Or.inl rfl) (pe_call G_behind_word (hr.mono (by omega)) rfl T.m_behind_word T.F_behind_word.kp T.b_behind_word .nil (passes_call (takes_of rfl rfl rfl rfl) (fun _ _ _ _ h => h)) (pa_cons (pv 0) (pa_cons (pv 2) pa_nil))))
    (pss_one (ps_expr (pe_bm PySem.F.plainAttrs_list PySem.F.slot_list_append PySem.F.type_list_append mt_append (pe_ix ix_list (pv 1) (pe_un un_neg pe_int) (fun _ _ => rfl)) (pa_cons (pe_slice sl_str (pv 0) (po_some (pv 2)) (po_some (pv 3))) pa_nil))))))))
    (pss_one (ps_set (i := 2) sc_read_value.nd rfl (Or.inl rfl) (pe_call G_behind_run (hr.mono (by omega)) rfl T.m_behind_run T.F_behind_run.kp T.b_behind_run .nil pass0 (pa_cons (pv 0) (pa_cons (pv 3) (pa_cons (pe_glob (v := .str " \n") rfl T.c_BETWEEN ⟨_, rfl⟩) pa_nil))))))))))
    (pss_cons (ps_if (PW.pt (pw_or (pt_cmpR op_gt (pe_callB call_len_seq rfl T.n_len bo_len (pa_cons (pv 1) pa_nil)) pe_int (nomark _)) (pw_or1 (pt_cmpR op_eq (pe_callB call_len_seq rfl T.n_len bo_len (pa_cons (pe_ix ix_list (pv 1) pe_int (fun _ _ => rfl)) pa_nil)) pe_int (nomark _))))) (pss_one (ps_raiseBadText rfl T.x_BadText hr (takes_of rfl rfl rfl rfl) (by exact (pa_cons (pe_callB call_len_str rfl T.n_len bo_len (pa_cons (pv 0) pa_nil)) pa_nil)))) pss_nil)
    (pss_one (ps_ret (pe_ix ix_list (pe_ix ix_list (pv 1) pe_int (fun _ _ => rfl)) pe_int (fun _ _ => rfl)))))))), ?_⟩
  -- opened = [[]]
  refine ⟨Nat.zero_le _, fun a0 na0 => ⟨by show 1 ≤ sizeLine; decide, fun O nO => ?_⟩⟩
  have k0 : Same H (upd (upd H a0 (.lst [])) O (.lst [.ref a0])) := (same_new na0).trans (same_new nO)
  have hO : H O = none := (same_new (H := H) na0 (o := .lst [])).free nO
  have n0O : a0 ≠ O := ne_of_none upd_same nO
  have S0 : Stk K (upd (upd H a0 (.lst [])) O (.lst [.ref a0])) O [a0] [[]] :=
    ⟨upd_same, .cons ⟨[], by rw [upd_ne n0O, upd_same], IsTs.nil⟩ .nil, by simp, by simpa using n0O.symm⟩
  -- at = behind_run(text, 0, BETWEEN)
  refine ⟨_, rfl, z, betS, 0, rfl, Nat.zero_le _, hz, ?_⟩
  have e0 : z.cps.toList.drop (0 + runS betS 0 z) = skip z.cps.toList := by rw [run_bet]; rfl
  have l0 : 0 + runS betS 0 z ≤ z.length := run_le (Nat.zero_le _)
  refine ⟨fun m σ H' => ∃ (at_ n : Nat) (as : List Addr) (st : List (List Tr)) (y3 y4 : Option V), σ = [some (.str z), some (.ref O), some (.int (at_ : Int)), y3, y4] ∧ Same H H' ∧ (∀ a ∈ as, H a = none) ∧ Stk K H' O as st ∧ at_ ≤ z.length ∧
    m = z.length - at_ ∧ (z.cps.toList.drop at_).length < n ∧ st.length ≤ at_ + 1 ∧ (st ≠ [] ∧ ∀ ts ∈ st, ts.length ≤ at_) ∧ rd z.length n st.reverse (z.cps.toList.drop at_) = R, ?_, ?_⟩
  · refine ⟨_, 0 + runS betS 0 z, z.length + 1, [a0], [[]], none, none, rfl, k0, fun a ha => by rw [List.mem_singleton.mp ha]; exact na0, S0, l0, rfl, ?_, by simp, ?_, ?_⟩
    · rw [List.length_drop, slen]; omega
    · exact ⟨by simp, fun ts hts => by rw [List.mem_singleton.mp hts]; exact Nat.zero_le _⟩
    · rw [e0]; exact hrd
  rintro m σ H1 ⟨at_, n, as, st, y3, y4, rfl, s1, fr1, S1, la, rfl, hn, hst, ⟨hne, hal⟩, hrd1⟩
  have ln := paired_len S1.pr
  refine ⟨_, rfl, _, rfl, z, rfl, hzl, _, _, rfl, rfl, _, rfl, ?_⟩
  refine ite2 (fun c => ?_) (fun c => ?_)
  · have c' : at_ < z.length := by have := of_decide_eq_true c; omega
    have g1 : z.cps.toList[at_]? = some (z.cps.toList[at_]'(by rw [slen]; exact c')) := List.getElem?_eq_getElem _
    have hd : z.cps.toList.drop at_ = z.cps.toList[at_]'(by rw [slen]; exact c') :: z.cps.toList.drop (at_ + 1) := List.drop_eq_getElem_cons _
    generalize z.cps.toList[at_]'(by rw [slen]; exact c') = ch at g1 hd
    have hrl : (z.cps.toList.drop (at_ + 1)).length = z.length - (at_ + 1) := by rw [List.length_drop, slen]
    cases n with
    | zero => exact absurd hn (Nat.not_lt_zero _)
    | succ n =>
    rw [hd] at hrd1 hn
    have eplace : z.length - ((z.cps.toList.drop (at_ + 1)).length + 1) = at_ := by rw [hrl]; omega
    have hla : as.length ≤ 10000001 := by rw [ln]; omega
    have hlz : as.length < sizeLine := Nat.lt_of_le_of_lt hla (by decide)
    have lm : (as.map V.ref).length = as.length := List.length_map _
    have has : as ≠ [] := fun e => hne (List.eq_nil_of_length_eq_zero (by rw [← ln, e]; rfl))
    refine ⟨fun σ' H' => ∃ (at2 n : Nat) (as : List Addr) (st : List (List Tr)) (y3 y4 : Option V), σ' = [some (.str z), some (.ref O), some (.int (at2 : Int)), y3, y4] ∧ Same H H' ∧ (∀ a ∈ as, H a = none) ∧ Stk K H' O as st ∧ at2 ≤ z.length ∧
      z.length - at2 < z.length - at_ ∧ (z.cps.toList.drop at2).length < n ∧ st.length ≤ at2 + 1 ∧ (st ≠ [] ∧ ∀ ts ∈ st, ts.length ≤ at2) ∧ rd z.length n st.reverse (z.cps.toList.drop at2) = R, ?_, ?_⟩
    · rintro σ' H' ⟨at2, n2, as2, st2, z3, z4, rfl, b1, b2, b3, b4, b5, b6, b7, b8, b9⟩
      exact ⟨_, b5, at2, n2, as2, st2, z3, z4, rfl, b1, b2, b3, b4, rfl, b6, b7, b8, b9⟩
    -- end = at + 1
    refine ⟨_, rfl, _, _, rfl, rfl, ?_⟩
    -- the first if does not hold
    refine ⟨fun σ H' => σ = [some (.str z), some (.ref O), some (.int (at_ : Int)), some (.int ((at_ : Int) + 1)), y4] ∧ H1 = H' ∧ full st.reverse = false, ?_, ?_⟩
    · refine ⟨_, rfl, O, _, rfl, .inl (SqL.of S1.op), rfl, _, rfl, ?_⟩
      by_cases h1 : as.length = 1
      · rw [decide_eq_true (show V.int ((as.map V.ref).length : Nat) = V.int 1 by rw [lm, h1]; rfl)]
        obtain ⟨a, rfl⟩ : ∃ a, as = [a] := List.length_eq_one_iff.mp h1
        have st1 : st.length = 1 := by rw [← ln, h1]
        obtain ⟨top, rfl⟩ : ∃ t, st = [t] := List.length_eq_one_iff.mp st1
        obtain ⟨vs, ea, hvs⟩ : ∃ vs, H1 a = some (.lst vs) ∧ IsTs K H1 top vs := by
          cases S1.pr with
          | cons f _ => exact f
        refine ⟨_, rfl, O, _, 0, .ref a, rfl, rfl, SqL.of S1.op, rfl, a, vs, rfl, .inl (SqL.of ea), _, _, rfl, rfl, _, rfl, ?_⟩
        have lvs0 := hvs.length
        cases top with
        | nil =>
          have evs : vs = [] := isTs_nil.mp hvs
          subst evs
          exact ⟨rfl, rfl, rfl⟩
        | cons x y =>
          rw [decide_eq_true (show (0 : Int) < ((vs.length : Nat) : Int) by rw [lvs0, List.length_cons]; omega)]
          refine ⟨_, rfl, _, rfl, fun d hd' => ?_⟩
          have hfu : full ([x :: y] : List (List Tr)).reverse = true := rfl
          rw [rd_full hfu, eplace] at hrd1
          exact qe at_ hrd1.symm H1 s1 d hd'
      · rw [decide_eq_false (show ¬ V.int ((as.map V.ref).length : Nat) = V.int 1 by rw [lm]; intro e; injection e with e; omega)]
        refine ⟨rfl, rfl, ?_⟩
        cases hc : full st.reverse with
        | false => rfl
        | true =>
          exfalso
          have : st.reverse.length = 1 := by
            cases hs : st.reverse with
            | nil => rw [hs] at hc; cases hc
            | cons y ys =>
              rw [hs] at hc
              cases ys with
              | nil => rfl
              | cons _ _ => cases y <;> cases hc
          rw [List.length_reverse] at this
          omega
    rintro σ H' ⟨rfl, rfl, hf⟩
    -- the three ways
    refine ⟨fun σ H' => ∃ (e n : Nat) (as : List Addr) (st : List (List Tr)) (y4 : Option V), σ = [some (.str z), some (.ref O), some (.int (at_ : Int)), some (.int (e : Int)), y4] ∧ Same H H' ∧ (∀ a ∈ as, H a = none) ∧ Stk K H' O as st ∧ e ≤ z.length ∧
      at_ < e ∧ (z.cps.toList.drop e).length < n ∧ st.length ≤ e + 1 ∧ (st ≠ [] ∧ ∀ ts ∈ st, ts.length ≤ e) ∧ rd z.length n st.reverse (skip (z.cps.toList.drop e)) = R, ?_, ?_⟩
    · refine ⟨_, rfl, _, rfl, z, (at_ : Int), ch, rfl, rfl, hzl, atI_nat g1, rfl, _, rfl, ?_⟩
      rw [one_eq op_cps]
      by_cases h40 : ch = 40
      · subst h40
        rw [rd_40 hf] at hrd1
        rw [decide_eq_true rfl]
        -- opened.append([])
        refine ⟨_, rfl, .inl ⟨rfl, _, SqL.of S1.op⟩, Nat.zero_le _, fun p np => ?_⟩
        have S2 := S1.same (same_new np (o := .lst []))
        have hpO : O ≠ p := ne_of_none S1.op np
        refine ⟨O, _, _, rfl, rfl, S2.op, by rw [lm]; exact hlz, ?_⟩
        have em : as.map V.ref ++ [.ref p] = (as ++ [p]).map V.ref := by simp
        rw [em]
        have pnew : p ∉ as := fun hp => by
          obtain ⟨vs, e⟩ := S1.get p hp
          rw [e] at np; cases np
        have S3 := S2.outer (bs := as ++ [p]) (ts := st ++ [[]]) (paired_snoc S2.pr ⟨[], upd_same, IsTs.nil⟩) (List.nodup_append.mpr ⟨S1.nd, by simp, fun a ha b hb e => by rw [List.mem_singleton.mp hb] at e; subst e; exact pnew ha⟩) (by
          rw [List.mem_append, List.mem_singleton]; exact fun h => h.elim S1.no hpO)
        refine ⟨at_ + 1, n, as ++ [p], st ++ [[]], _, rfl, fun b o e => ?_, fun a ha => ?_, S3, c', Nat.lt_succ_self _, ?_, ?_, ⟨by simp, fun ts hts => ?_⟩, ?_⟩
        · rw [upd_ne (ne_of_none e hO)]; exact (s1.trans (same_new np)) b o e
        · rcases List.mem_append.mp ha with h | h
          · exact fr1 a h
          · rw [List.mem_singleton.mp h]; exact s1.free np
        · simp only [List.length_cons] at hn; omega
        · rw [List.length_append, List.length_singleton]; omega
        · rcases List.mem_append.mp hts with h | h
          · have := hal ts h; omega
          · rw [List.mem_singleton.mp h]; exact Nat.zero_le _
        · rw [List.reverse_append]; exact hrd1
      · rw [decide_eq_false h40]
        have hlst : 0 < st.length := List.length_pos_iff.mpr hne
        obtain ⟨as', a, st', top, rfl, rfl, p', vs, ea, hvs⟩ := paired_last S1.pr hlst
        have erev : (st' ++ [top]).reverse = top :: st'.reverse := by simp
        rw [erev] at hrd1 hf
        have lvs : vs.length = top.length := hvs.length
        have szst : ∀ s ∈ st' ++ [top], True := fun _ _ => trivial
        have ea0 : H a = none := fr1 a (by simp)
        have nda := List.nodup_append.mp S1.nd
        have lp' := paired_len p'
        -- text[at] == ")" and len(opened) > 1
        refine iteF ?_
        refine if_b (decide (ch = 41 ∧ st' ≠ [])) (fun Qb qb => ?_) (fun cb => ?_) (fun cb => ?_)
        · refine ⟨_, rfl, _, rfl, z, (at_ : Int), ch, rfl, rfl, hzl, atI_nat g1, rfl, _, rfl, ?_⟩
          rw [one_eq cl_cps]
          by_cases h41 : ch = 41
          · rw [decide_eq_true h41]
            refine ⟨_, rfl, O, _, rfl, .inl (SqL.of S1.op), _, _, rfl, rfl, _, rfl, ?_⟩
            have eb : decide ((1 : Int) < ((((as' ++ [a]).map V.ref).length : Nat) : Int)) = decide (ch = 41 ∧ st' ≠ []) := by
              refine decide_eq_decide.mpr ?_
              rw [List.length_map, List.length_append, List.length_singleton, lp']
              constructor
              · intro g; exact ⟨h41, fun e => by rw [e] at g; simp at g⟩
              · intro g; have := List.length_pos_iff.mpr g.2; omega
            rw [eb]
            exact qb
          · rw [decide_eq_false h41]
            rw [decide_eq_false (fun g => h41 g.1)] at qb
            exact qb
        · obtain ⟨h41, h0⟩ := of_decide_eq_true cb
          obtain ⟨as'', b, st'', nxt, rfl, rfl, p2, ws, eb, hws⟩ := paired_last p' (List.length_pos_iff.mpr h0)
          subst h41
          have erev2 : (st'' ++ [nxt]).reverse = nxt :: st''.reverse := by simp
          rw [erev2] at hrd1 hf
          rw [rd_41 hf] at hrd1
          have em : ((as'' ++ [b]) ++ [a]).map V.ref = (as'' ++ [b]).map V.ref ++ [.ref a] := by simp
          have S1op := S1.op
          rw [em] at S1op
          -- items = opened.pop()
          refine ⟨_, rfl, .inl ⟨rfl, _, SqL.of S1op⟩, O, _, .ref a, rfl, rfl, S1op, last_of _ _, ?_⟩
          rw [List.dropLast_concat]
          have S2 := S1.outer p' nda.1 (fun h => S1.no (List.mem_append_left _ h))
          have naO : a ≠ O := fun e => S1.no (by rw [← e]; simp)
          have k2 : Same H (upd H1 O (.lst ((as'' ++ [b]).map V.ref))) := fun b o e => by rw [upd_ne (ne_of_none e hO)]; exact s1 b o e
          have ea2 : (upd H1 O (.lst ((as'' ++ [b]).map V.ref))) a = some (.lst vs) := by rw [upd_ne naO]; exact ea
          have hvs2 : IsTs K (upd H1 O (.lst ((as'' ++ [b]).map V.ref))) top vs := hvs.tk (TK.put (mut_lst S1op))
          generalize upd H1 O (.lst ((as'' ++ [b]).map V.ref)) = H2 at S2 k2 ea2 hvs2 ⊢
          obtain ⟨_, _, _, _, z1, z2, _, ws2, eb2, hws2⟩ := paired_last S2.pr (by simp)
          obtain ⟨_, z1⟩ := List.append_inj' z1 rfl
          obtain ⟨_, z2⟩ := List.append_inj' z2 rfl
          cases z1; cases z2
          -- opened[-1].append(tuple(items))
          have em2 : (as'' ++ [b]).map V.ref = as''.map V.ref ++ [.ref b] := by simp
          have S2op := S2.op
          rw [em2] at S2op
          refine ⟨_, rfl, 1, rfl, O, _, -1, .ref b, rfl, rfl, SqL.of S2op, last_ix, .inl ⟨rfl, _, SqL.of eb2⟩, _, rfl, a, vs, rfl, .inl ⟨SqL.of ea2, fun tt ntt => ?_⟩⟩
          have S3 := S2.same (same_new ntt (o := .tup vs))
          have tk3 : TK K H2 (upd H2 tt (.tup vs)) := TK.new ntt
          have eb3 : (upd H2 tt (.tup vs)) b = some (.lst ws2) := by rw [upd_ne (ne_of_none eb2 ntt)]; exact eb2
          have hb0 : H b = none := fr1 b (by simp)
          refine ⟨b, _, _, rfl, rfl, eb3, ?_, ?_⟩
          · rw [hws2.length]
            have := hal nxt (by simp)
            exact Nat.lt_of_le_of_lt (Nat.le_trans this la) (Nat.lt_of_le_of_lt hz (by decide))
          have S4 := S3.app eb3 (IsT.tup (SqT.of upd_same) (hvs2.tk tk3))
          refine ⟨at_ + 1, n, as'' ++ [b], st'' ++ [nxt ++ [.l top]], _, rfl, fun b' o e => ?_, fun a ha => fr1 a (List.mem_append_left _ ha), S4, c', Nat.lt_succ_self _, ?_, ?_, ⟨by simp, fun ts hts => ?_⟩, ?_⟩
          · rw [upd_ne (ne_of_none e hb0)]; exact (k2.trans (same_new ntt)) b' o e
          · simp only [List.length_cons] at hn; omega
          · simp only [List.length_append, List.length_singleton] at hst ⊢; omega
          · rcases List.mem_append.mp hts with h | h
            · have := hal ts (by simp [h]); omega
            · rw [List.mem_singleton.mp h, List.length_append, List.length_singleton]; have := hal nxt (by simp); omega
          · rw [List.reverse_append]; exact hrd1
        · have h41 : ch ≠ 41 ∨ st' = [] := by
            have := of_decide_eq_false cb
            by_cases h : ch = 41
            · exact .inr (Classical.not_not.mp fun g => this ⟨h, g⟩)
            · exact .inl h
          rw [rd_word hf h40 (h41.imp id fun z => by rw [z]; rfl)] at hrd1
          -- end = behind_word(text, at)
          refine ⟨_, rfl, _, rfl, z, at_, ch, z.cps.toList.drop (at_ + 1), rfl, hz, hd, fun hl => ?_, fun hl h12 => ?_, fun hl h12 => ?_⟩
          · rw [if_neg (by rw [hl]; decide), eplace] at hrd1
            exact fun d hd' => qe at_ hrd1.symm H1 s1 d hd'
          · rw [if_pos hl, if_neg (by omega), eplace] at hrd1
            exact fun d hd' => qe (at_ + 12) hrd1.symm H1 s1 d hd'
          rw [if_pos hl, if_pos h12] at hrd1
          have hrd2 := hrd1
          have rl : at_ + ((ch :: z.cps.toList.drop (at_ + 1)).takeWhile alnum).length ≤ z.length := by
            have := tw_le alnum (ch :: z.cps.toList.drop (at_ + 1))
            simp only [List.length_cons] at this hn
            omega
          have etk := take_tw alnum (ch :: z.cps.toList.drop (at_ + 1))
          have edr := drop_tw alnum (ch :: z.cps.toList.drop (at_ + 1))
          have rpos : 0 < ((ch :: z.cps.toList.drop (at_ + 1)).takeWhile alnum).length := by
            rw [List.takeWhile_cons, low_alnum hl]; simp
          rw [← hd] at etk edr rl rpos hrd2 h12
          rw [← hd]
          have em2 : (as' ++ [a]).map V.ref = as'.map V.ref ++ [.ref a] := by simp
          have S1op := S1.op
          rw [em2] at S1op
          refine ⟨_, rfl, 1, rfl, O, _, -1, .ref a, rfl, rfl, SqL.of S1op, last_ix, .inl ⟨rfl, _, SqL.of ea⟩, _, rfl, _, rfl, _, rfl, _, rfl, _, rfl, z, rfl, hzl, ?_⟩
          refine ⟨a, _, _, rfl, rfl, ea, ?_, ?_⟩
          · rw [lvs]
            have := hal top (by simp)
            exact Nat.lt_of_le_of_lt (Nat.le_trans this la) (Nat.lt_of_le_of_lt hz (by decide))
          have ew : (⟨((z.cps.toList.drop at_).takeWhile alnum).toArray⟩ : Str) = cutS z (some (at_ : Int)) (some ((at_ + ((z.cps.toList.drop at_).takeWhile alnum).length : Nat) : Int)) := by
            refine str_ext ?_
            rw [cut_cps (Nat.le_add_right _ _) rl, Nat.add_sub_cancel_left]
            exact etk
          have S4 := S1.app ea (IsT.str (K := K) (H := H1) (s := cutS z (some (at_ : Int)) (some ((at_ + ((z.cps.toList.drop at_).takeWhile alnum).length : Nat) : Int))))
          refine ⟨at_ + ((z.cps.toList.drop at_).takeWhile alnum).length, n, as' ++ [a], st' ++ [top ++ [.w (cutS z (some (at_ : Int)) (some ((at_ + ((z.cps.toList.drop at_).takeWhile alnum).length : Nat) : Int)))]], _, rfl, fun b' o e => ?_, fr1, S4, rl, by omega, ?_, ?_, ⟨by simp, fun ts hts => ?_⟩, ?_⟩
          · rw [upd_ne (ne_of_none e ea0)]; exact s1 b' o e
          · rw [List.length_drop, slen]; simp only [List.length_cons] at hn; omega
          · simp only [List.length_append, List.length_singleton] at hst ⊢; omega
          · rcases List.mem_append.mp hts with h | h
            · have := hal ts (by simp [h]); omega
            · rw [List.mem_singleton.mp h, List.length_append, List.length_singleton]; have := hal top (by simp); omega
          · rw [List.reverse_append, ← ew]
            rw [edr, List.drop_drop] at hrd2
            exact hrd2
    · rintro σ H2 ⟨e, n, as, st, y4, rfl, s2, fr2, S2, le, lt, hn2, hst2, ⟨hne2, hal2⟩, hrd2⟩
      refine ⟨_, rfl, _, rfl, z, betS, e, rfl, le, hz, ?_⟩
      have rl := run_le (sg := betS) le
      have rb := run_bet (z := z) (n := e)
      refine ⟨_, n, as, st, _, _, rfl, s2, fr2, S2, rl, ?_, ?_, ?_, ⟨hne2, fun ts hts => by have := hal2 ts hts; omega⟩, ?_⟩
      · omega
      · rw [List.length_drop, slen] at hn2 ⊢; omega
      · omega
      · rw [rb]; exact hrd2
  · have c' : ¬ at_ < z.length := by have := of_decide_eq_false (Bool.eq_false_iff.mpr c); omega
    have hd : z.cps.toList.drop at_ = [] := List.drop_eq_nil_of_le (by rw [slen]; omega)
    rw [hd] at hrd1 hn
    cases n with
    | zero => exact absurd hn (Nat.not_lt_zero _)
    | succ n =>
    -- the end
    obtain ⟨as', a, st', top, rfl, rfl, p', vs, ea, hvs⟩ := paired_last S1.pr (List.length_pos_iff.mpr hne)
    have erev : (st' ++ [top]).reverse = top :: st'.reverse := by simp
    rw [erev] at hrd1
    have lp2 := paired_len p'
    have lv := hvs.length
    -- len(opened) > 1 or len(opened[0]) == 0
    have bad : R = .error z.length → ∀ d, H1 d = none → E (.ref T.C_BadText) (some d) (upd H1 d (.xd [("place", .int (z.length : Nat))])) := fun e d hd' => qe z.length e H1 s1 d hd'
    refine ⟨_, rfl, O, _, rfl, .inl (SqL.of S1.op), _, _, rfl, rfl, _, rfl, ?_⟩
    cases st' with
    | cons s0 sr =>
      have e2 : R = .error z.length := by
        rw [← hrd1]
        simp only [rd]
        cases hs : (s0 :: sr).reverse with
        | nil => simp at hs
        | cons y ys => cases top <;> rfl
      have l2 : (1 : Int) < ((((as' ++ [a]).map V.ref).length : Nat) : Int) := by
        rw [List.length_map, List.length_append, List.length_singleton, lp2, List.length_cons]; omega
      rw [decide_eq_true l2]
      exact ⟨_, rfl, z, rfl, hzl, _, rfl, fun d hd' => bad e2 d hd'⟩
    | nil =>
      have eas : as' = [] := List.eq_nil_of_length_eq_zero lp2
      subst eas
      refine ⟨_, rfl, O, _, 0, .ref a, rfl, rfl, SqL.of S1.op, rfl, a, vs, rfl, .inl (SqL.of ea), rfl, _, rfl, ?_⟩
      cases top with
      | nil =>
        have evs : vs = [] := isTs_nil.mp hvs
        subst evs
        have e2 : R = .error z.length := by rw [← hrd1]; rfl
        exact ⟨_, rfl, z, rfl, hzl, _, rfl, fun d hd' => bad e2 d hd'⟩
      | cons x rr =>
        have e2 : R = .ok x := by rw [← hrd1]; rfl
        obtain ⟨v, r, rfl, hv, _⟩ := isTs_cons.mp hvs
        rw [decide_eq_false (show ¬ V.int (((v :: r).length : Nat) : Int) = V.int 0 by intro e; injection e with e; simp at e; omega)]
        exact ⟨_, rfl, O, _, 0, .ref a, rfl, rfl, SqL.of S1.op, rfl, a, _, 0, v, rfl, rfl, SqL.of ea, atI_of (Int.le_refl 0) rfl, qo x e2 H1 v s1 hv⟩

/-! ### _law_run_end -/
theorem lf_eq : ("abcdefghijklmnopqrstuvwxyz0123456789" : Str) = lowS ++ figS := by decide +kernel
def spEnd : Sp := fun vs H Q _ => ∃ (z : Str) (n : Nat), vs = [.str z, .int (n : Int)] ∧ n ≤ z.length ∧ z.length ≤ 10000000 ∧ Q (.int ((n + runS (lowS ++ figS) n z : Nat) : Int)) H
theorem ok_run_end {P : Program} {w : World} {K : PySem.W.Frag} {mg : Str → Option Value} {base : Heap} (T : Top K mg) {k : Nat} : FnOk P w K mg base CX0 (k + 1) T.a_law_run_end T.d_law_run_end ["_law_text_here", "_law_at"] spEnd := by
  refine T.F_law_run_end.ok sc_law_run_end (fun vs H Q E h => ?_) (fun cdv A outer s H vs Q E hr h => ?_)
  · obtain ⟨z, n, rfl, _⟩ := h
    rfl
  obtain ⟨z, n, rfl, hn, hz, q⟩ := h
  have hzl : z.length ≤ sizeLine := Nat.le_trans hz (by decide)
  refine ⟨_, (pss_cons (ps_for PassesOwn.never rfl (pi_range2 rfl T.n_range (pa_cons (pv 1) (pa_cons (pe_callB call_len_str rfl T.n_len bo_len (pa_cons (pv 0) pa_nil)) pa_nil))) (pg_name (i := 2) sc_law_run_end.nd rfl (Or.inl rfl)) (pss_one (ps_if (pt_cmpR op_notIn_sign (pe_ix ix_str (pv 0) (pv 2) (fun _ _ => rfl)) pe_str rfl) (pss_one (ps_ret (pv 2))) pss_nil)))
    (pss_one (ps_ret (pe_callB call_len_str rfl T.n_len bo_len (pa_cons (pv 0) pa_nil))))), ?_⟩
  refine ⟨_, rfl, _, rfl, z, rfl, hzl, n, z.length, rfl, ⟨by omega, by omega, by omega, by omega⟩, ?_⟩
  rw [show (((z.length : Nat) : Int) - ((n : Nat) : Int)).toNat = z.length - n by omega]
  refine for_range (lo := (n : Int)) (n := z.length - n) (fun i σ H' => ∃ y : Option V, σ = [some (.str z), some (.int n), y] ∧ H' = H ∧ n + runS (lowS ++ figS) n z = (n + i) + runS (lowS ++ figS) (n + i) z)
    ⟨_, rfl, rfl, rfl⟩ (fun i σ H1 hi hP => ?_) (fun σ H1 hP => ?_)
  · obtain ⟨y, rfl, rfl, hrun⟩ := hP
    have hl : n + i < z.cps.toList.length := by rw [slen]; omega
    have g1 : z.cps.toList[n + i]? = some z.cps.toList[n + i] := List.getElem?_eq_getElem hl
    have ei : (n : Int) + (i : Int) = ((n + i : Nat) : Int) := by omega
    rw [ei]
    have tw := twl (p := fun c => decide (c ∈ (lowS ++ figS).cps.toList)) g1
    refine ⟨_, rfl, _, rfl, z, ((n + i : Nat) : Int), _, rfl, rfl, hzl, atI_nat g1, _, lowS ++ figS, rfl, by rw [← lf_eq], _, rfl, ?_⟩
    by_cases c2 : z.cps.toList[n + i] ∈ (lowS ++ figS).cps.toList
    · rw [decide_eq_true c2]
      rw [decide_eq_true c2, if_pos rfl] at tw
      have tw' : runS (lowS ++ figS) (n + i) z = runS (lowS ++ figS) (n + i + 1) z + 1 := tw
      exact ⟨_, rfl, rfl, by rw [hrun, tw', ← Nat.add_assoc n i 1]; omega⟩
    · rw [decide_eq_false c2]
      rw [decide_eq_false c2] at tw
      have e2 : runS (lowS ++ figS) (n + i) z = 0 := by simpa using tw
      rw [hrun, e2] at q
      exact ⟨_, rfl, q⟩
  · obtain ⟨y, rfl, rfl, hrun⟩ := hP
    have e3 : n + (z.length - n) = z.length := by omega
    rw [e3] at hrun
    have e0 : runS (lowS ++ figS) z.length z = 0 := by
      unfold runS
      rw [List.drop_eq_nil_of_le (by rw [slen]; exact Nat.le_refl _)]; rfl
    rw [hrun, e0] at q
    exact ⟨_, rfl, z, rfl, hzl, q⟩

/-! ### _law_read -/
theorem isT_nn {K : PySem.W.Frag} {H : Hp} {t : Tr} {v : V} (h : IsT K H t v) : v ≠ .non := by
  cases t with
  | w s => rw [isT_w.mp h]; exact fun e => by cases e
  | l ts => obtain ⟨a, vs, rfl, _⟩ := isT_l.mp h; exact fun e => by cases e
/-- the lists of rd with a value put behind the last one -/
def psh : List (List Tr) → Tr → List (List Tr)
  | [], t => [[t]]
  | top :: s, t => ((top ++ [t]) :: s) ++ [[]]
theorem full_nb (st : List (List Tr)) : full (st ++ [[]]) = false := by
  cases st with
  | nil => rfl
  | cons y ys =>
    cases ys with
    | nil => cases y <;> rfl
    | cons _ _ => cases y <;> rfl
/-- the value read whole, if any -/
def WV (K : PySem.W.Frag) (H : Hp) (wt : List Tr) (wv : V) (st : List (List Tr)) : Prop := (wt = [] ∧ wv = .non) ∨ ∃ t, wt = [t] ∧ st = [] ∧ IsT K H t wv
theorem skip_bet {c : Nat} {r : List Nat} (h : bet c = true) : skip (c :: r) = skip r := by unfold skip; rw [List.dropWhile_cons, if_pos h]
theorem sp_cps : (" " : Str).cps.toList = [32] := by decide +kernel
theorem nl_cps : ("\n" : Str).cps.toList = [10] := by decide +kernel
theorem bet_eq {c : Nat} : bet c = decide (c = 32 ∨ c = 10) := by
  unfold bet
  have e : betS.cps.toList = [32, 10] := by decide +kernel
  exact decide_eq_decide.mpr (by rw [e]; simp)
def spRead (K : PySem.W.Frag) : Sp := fun vs H Q _ => ∃ (z : Str) (R : Except Nat Tr), vs = [.str z] ∧ z.length ≤ 10000000 ∧ rd z.length (z.length + 1) [[]] (skip z.cps.toList) = R ∧
  (∀ t, R = .ok t → ∀ (H' : Hp) (l : Addr) (v : V), Same H H' → H l = none → H' l = some (.lst [.str "good", v]) → IsT K H' t v → Q (.ref l) H') ∧
  ∀ p : Nat, R = .error p → ∀ (H' : Hp) (l : Addr), Same H H' → H l = none → H' l = some (.lst [.str "bad", .int (p : Int)]) → Q (.ref l) H'
theorem ok_read {P : Program} {w : World} {K : PySem.W.Frag} {mg : Str → Option Value} {base : Heap} (T : Top K mg) {k : Nat} (G_law_run_end : FnOk P w K mg base CX0 1 T.a_law_run_end T.d_law_run_end ["_law_text_here", "_law_at"] spEnd) : FnOk P w K mg base CX0 (k + 2) T.a_law_read T.d_law_read ["_law_text_here"] (spRead K) := by
  refine T.F_law_read.ok sc_law_read (fun vs H Q E h => ?_) (fun cdv A outer s H vs Q E hr h => ?_)
  · obtain ⟨z, t, rfl, _⟩ := h
    rfl
  obtain ⟨z, R, rfl, hz, hrd, qo, qe⟩ := h
  have hzl : z.length ≤ sizeLine := Nat.le_trans hz (by decide)
  refine ⟨_, (pss_cons (ps_set (i := 1) sc_law_read.nd rfl (Or.inl rfl) (pe_lst pa_nil))
    (pss_cons (ps_set (i := 2) sc_law_read.nd rfl (Or.inl rfl) pe_non)
    (pss_cons (ps_set (i := 3) sc_law_read.nd rfl (Or.inl rfl) pe_int)
    (pss_cons (ps_for PassesOwn.never rfl (pi_range1 rfl T.n_range (pa_cons (pe_callB call_len_str rfl T.n_len bo_len (pa_cons (pv 0) pa_nil)) pa_nil)) (pg_name (i := 4) sc_law_read.nd rfl (Or.inl rfl)) (pss_cons (ps_if (pt_cmpR op_ge (pv 3) (pe_callB call_len_str rfl T.n_len bo_len (pa_cons (pv 0) pa_nil)) (nomark _)) (pss_one ps_break) pss_nil)
    (pss_cons (ps_set (i := 5) sc_law_read.nd rfl (Or.inl rfl) (pe_ix ix_str (pv 0) (pv 3) (fun _ _ => rfl)))
    (pss_cons (ps_if (PW.pt (pw_or (pt_cmpR op_eq (pv 5) pe_str (nomark _)) (pw_or1 (pt_cmpR op_eq (pv 5) pe_str (nomark _))))) (pss_cons (ps_set (i := 3) sc_law_read.nd rfl (Or.inl rfl) (pe_op op_add (pv 3) pe_int))
    (pss_one ps_continue)) pss_nil)
    (pss_cons (ps_if (pt_cmpR op_notN (pv 2) pe_non (nomark _)) (pss_one (ps_ret (pe_lst (pa_cons pe_str (pa_cons (pv 3) pa_nil))))) pss_nil)
    (pss_cons (ps_set (i := 6) sc_law_read.nd rfl (Or.inl rfl) pe_non)
    (C8.pss_cut (ps_if (pt_cmpR op_eq (pv 5) pe_str (nomark _)) (pss_one (ps_expr (pe_bm PySem.F.plainAttrs_list PySem.F.slot_list_append PySem.F.type_list_append mt_append (pv 1) (pa_cons (pe_lst pa_nil) pa_nil)))) (pss_one (ps_if (PW.pt (pw_and (pt_cmpR op_eq (pv 5) pe_str (nomark _)) (pw_and1 (pt_cmpR op_gt (pe_callB call_len_seq rfl T.n_len bo_len (pa_cons (pv 1) pa_nil)) pe_int (nomark _))))) (pss_one (ps_set (i := 6) sc_law_read.nd rfl (Or.inl rfl) (pe_callTy call_tuple_of rfl T.n_tuple bo_tuple (pa_cons (pe_bm0 PySem.F.plainAttrs_list PySem.F.slot_list_pop PySem.F.type_list_pop mt_pop (pv 1)) pa_nil)))) (pss_one (ps_if (pt_cmpR op_in_sign (pv 5) pe_str rfl) (pss_cons (ps_set (i := 7) sc_law_read.nd rfl (Or.inl rfl) (pe_call G_law_run_end (hr.mono (by omega)) rfl T.m_law_run_end T.F_law_run_end.kp T.b_law_run_end .nil pass0 (pa_cons (pv 0) (pa_cons (pv 3) pa_nil))))
    (pss_cons (ps_if (pt_cmpR op_gt (pe_op op_sub (pv 7) (pv 3)) pe_int (nomark _)) (pss_one (ps_ret (pe_lst (pa_cons pe_str (pa_cons (pe_op op_add (pv 3) pe_int) pa_nil))))) pss_nil)
    (pss_cons (ps_set (i := 6) sc_law_read.nd rfl (Or.inl rfl) (pe_slice sl_str (pv 0) (po_some (pv 3)) (po_some (pv 7))))
    (pss_one (ps_set (i := 3) sc_law_read.nd rfl (Or.inl rfl) (pe_op op_sub (pv 7) pe_int)))))) (pss_one (ps_ret (pe_lst (pa_cons pe_str (pa_cons (pv 3) pa_nil))))))))))
    (pss_cons (ps_set (i := 3) sc_law_read.nd rfl (Or.inl rfl) (pe_op op_add (pv 3) pe_int))
    (pss_one (ps_if (PW.pt (pw_and (pt_cmpR op_notN (pv 6) pe_non (nomark _)) (pw_and1 (pt_cmpR op_eq (pe_callB call_len_seq rfl T.n_len bo_len (pa_cons (pv 1) pa_nil)) pe_int (nomark _))))) (pss_one (ps_set (i := 2) sc_law_read.nd rfl (Or.inl rfl) (pv 6))) (pss_one (ps_if (pt_cmpR op_notN (pv 6) pe_non (nomark _)) (pss_one (ps_expr (pe_bm PySem.F.plainAttrs_list PySem.F.slot_list_append PySem.F.type_list_append mt_append (pe_ix ix_list (pv 1) (pe_un un_neg pe_int) (fun _ _ => rfl)) (pa_cons (pv 6) pa_nil)))) pss_nil))))))))))))
    (pss_cons (ps_if (pt_cmpR op_isN (pv 2) pe_non (nomark _)) (pss_one (ps_ret (pe_lst (pa_cons pe_str (pa_cons (pe_callB call_len_str rfl T.n_len bo_len (pa_cons (pv 0) pa_nil)) pa_nil))))) pss_nil)
    (pss_one (ps_ret (pe_lst (pa_cons pe_str (pa_cons (pv 2) pa_nil)))))))))), ?_⟩
  refine ⟨Nat.zero_le _, fun O nO => ?_⟩
  have S0 : Stk K (upd H O (.lst [])) O [] [] := ⟨upd_same, .nil, by simp, by simp⟩
  have k0 : Same H (upd H O (.lst [])) := same_new nO
  refine ⟨_, rfl, z, rfl, hzl, (z.length : Int), rfl, by omega, by omega, ?_⟩
  rw [show ((z.length : Nat) : Int).toNat = z.length by omega]
  refine for_range (lo := 0) (n := z.length) (fun i σ H' => ∃ (at_ n : Nat) (as : List Addr) (st : List (List Tr)) (wv : V) (wt : List Tr) (y4 y5 y6 y7 : Option V), σ = [some (.str z), some (.ref O), some wv, some (.int (at_ : Int)), y4, y5, y6, y7] ∧ Same H H' ∧ (∀ a ∈ as, H a = none) ∧ Stk K H' O as st ∧ at_ ≤ z.length ∧ i ≤ at_ ∧
    (skip (z.cps.toList.drop at_)).length < n ∧ st.length ≤ at_ ∧ (∀ ts ∈ st, ts.length ≤ at_) ∧ rd z.length n (st.reverse ++ [wt]) (skip (z.cps.toList.drop at_)) = R ∧ WV K H' wt wv st) ?_ (fun i σ H1 hi hP => ?_) (fun σ H1 hP => ?_)
  · refine ⟨0, z.length + 1, [], [], .non, [], none, none, none, none, rfl, k0, by simp, S0, Nat.zero_le _, Nat.le_refl _, ?_, Nat.zero_le _, by simp, hrd, .inl ⟨rfl, rfl⟩⟩
    have := skip_le (z.cps.toList.drop 0)
    rw [List.length_drop, slen] at this
    omega
  · obtain ⟨at_, n, as, st, wv, wt, y4, y5, y6, y7, rfl, s1, fr1, S1, la, hia, hn, hst, hal, hrd1, hw⟩ := hP
    refine ⟨_, rfl, _, rfl, z, rfl, hzl, _, _, rfl, rfl, _, rfl, ?_⟩
    refine ite2 (fun c => ?_) (fun c => ?_)
    · have c' : z.length ≤ at_ := by have := of_decide_eq_true c; omega
      have hd : z.cps.toList.drop at_ = [] := List.drop_eq_nil_of_le (by rw [slen]; omega)
      rw [hd] at hrd1 hn
      cases n with
      | zero => exact absurd hn (Nat.not_lt_zero _)
      | succ n =>
      rcases hw with ⟨rfl, rfl⟩ | ⟨t, rfl, rfl, ht⟩
      · have e2 : R = .error z.length := by
          rw [← hrd1]
          simp only [skip, List.dropWhile_nil, rd]
          cases hs : st.reverse with
          | nil => rfl
          | cons y ys => cases ys <;> cases y <;> (try cases ‹List Tr›) <;> rfl
        refine ⟨_, rfl, rfl, _, rfl, ?_⟩
        rw [decide_eq_true (rfl : V.non = V.non)]
        exact ⟨_, rfl, z, rfl, hzl, (show 2 ≤ sizeLine by decide), fun l nl => qe z.length e2 _ l (s1.trans (same_new nl)) (s1.free nl) upd_same⟩
      · have e2 : R = .ok t := by rw [← hrd1]; rfl
        refine ⟨_, rfl, rfl, _, rfl, ?_⟩
        rw [decide_eq_false (isT_nn ht)]
        exact ⟨_, rfl, (show 2 ≤ sizeLine by decide), fun l nl => qo t e2 _ l wv (s1.trans (same_new nl)) (s1.free nl) upd_same (ht.tk (TK.new nl))⟩
    have c' : at_ < z.length := by have := of_decide_eq_false (Bool.eq_false_iff.mpr c); omega
    have g1 : z.cps.toList[at_]? = some (z.cps.toList[at_]'(by rw [slen]; exact c')) := List.getElem?_eq_getElem _
    have hd : z.cps.toList.drop at_ = z.cps.toList[at_]'(by rw [slen]; exact c') :: z.cps.toList.drop (at_ + 1) := List.drop_eq_getElem_cons _
    generalize z.cps.toList[at_]'(by rw [slen]; exact c') = ch at g1 hd
    have hrl : (z.cps.toList.drop (at_ + 1)).length = z.length - (at_ + 1) := by rw [List.length_drop, slen]
    have ln := paired_len S1.pr
    have lm : (as.map V.ref).length = as.length := List.length_map _
    have hlz : as.length < sizeLine := Nat.lt_of_le_of_lt (by rw [ln]; omega : as.length ≤ 10000001) (by decide)
    cases n with
    | zero => exact absurd hn (Nat.not_lt_zero _)
    | succ n =>
    rw [hd] at hrd1 hn
    refine ⟨_, rfl, _, rfl, z, (at_ : Int), ch, rfl, rfl, hzl, atI_nat g1, ?_⟩
    dsimp only [gName, tSeq]
    refine if_b (bet ch) (fun Qb qb => ?_) (fun cb => ?_) (fun cb => ?_)
    · refine ⟨_, rfl, rfl, _, rfl, ?_⟩
      rw [one_eq sp_cps]
      by_cases h : ch = 32
      · rw [decide_eq_true h]
        rw [show bet ch = true by rw [h]; decide +kernel] at qb
        exact qb
      · rw [decide_eq_false h]
        refine ⟨_, rfl, rfl, _, rfl, ?_⟩
        rw [one_eq nl_cps]
        rw [bet_eq, decide_eq_decide.mpr (show (ch = 32 ∨ ch = 10) ↔ ch = 10 from ⟨fun g => g.resolve_left h, .inr⟩)] at qb
        exact qb
    · rw [skip_bet cb] at hrd1 hn
      refine ⟨_, rfl, _, _, rfl, rfl, ?_⟩
      exact ⟨at_ + 1, n + 1, as, st, wv, wt, _, _, _, _, rfl, s1, fr1, S1, c', by omega, hn, by omega, fun ts h => by have := hal ts h; omega, hrd1, hw⟩
    rw [skip_no cb] at hrd1 hn
    have eplace : z.length - ((z.cps.toList.drop (at_ + 1)).length + 1) = at_ := by rw [hrl]; omega
    rcases hw with ⟨rfl, rfl⟩ | ⟨t, rfl, rfl, ht⟩
    case inr =>
      rw [rd_full (show full ([].reverse ++ [[t]]) = true from rfl), eplace] at hrd1
      refine ⟨_, rfl, rfl, _, rfl, ?_⟩
      rw [decide_eq_false (isT_nn ht)]
      exact ⟨_, rfl, (show 2 ≤ sizeLine by decide), fun l nl => qe at_ hrd1.symm _ l (s1.trans (same_new nl)) (s1.free nl) upd_same⟩
    refine ⟨_, rfl, rfl, _, rfl, ?_⟩
    rw [decide_eq_true (rfl : V.non = V.non)]
    refine ⟨fun σ H' => ∃ (at2 n : Nat) (as : List Addr) (st : List (List Tr)) (fv : V) (y4 y5 y7 : Option V), σ = [some (.str z), some (.ref O), some .non, some (.int (at2 : Int)), y4, y5, some fv, y7] ∧ Same H H' ∧ (∀ a ∈ as, H a = none) ∧ Stk K H' O as st ∧ at2 < z.length ∧ at_ ≤ at2 ∧
      (skip (z.cps.toList.drop (at2 + 1))).length < n ∧ st.length ≤ at2 + 1 ∧ (∀ ts ∈ st, ts.length ≤ at2) ∧
      ((fv = .non ∧ rd z.length n (st.reverse ++ [[]]) (skip (z.cps.toList.drop (at2 + 1))) = R) ∨ ∃ t, IsT K H' t fv ∧ rd z.length n (psh st.reverse t) (skip (z.cps.toList.drop (at2 + 1))) = R), ?_, ?_⟩
    · refine ⟨_, rfl, rfl, _, rfl, ?_⟩
      rw [one_eq op_cps]
      have hsl := skip_le (z.cps.toList.drop (at_ + 1))
      simp only [List.length_cons] at hn
      by_cases h40 : ch = 40
      · subst h40
        rw [rd_40 (full_nb _)] at hrd1
        rw [decide_eq_true rfl]
        refine ⟨_, rfl, .inl ⟨rfl, _, SqL.of S1.op⟩, Nat.zero_le _, fun p np => ?_⟩
        have S2 := S1.same (same_new np (o := .lst []))
        have hO : H O = none := nO
        have hpO : O ≠ p := ne_of_none S1.op np
        refine ⟨O, _, _, rfl, rfl, S2.op, by rw [lm]; exact hlz, ?_⟩
        have em : as.map V.ref ++ [.ref p] = (as ++ [p]).map V.ref := by simp
        rw [em]
        have pnew : p ∉ as := fun hp => by
          obtain ⟨vs, e⟩ := S1.get p hp
          rw [e] at np; cases np
        have S3 := S2.outer (bs := as ++ [p]) (ts := st ++ [[]]) (paired_snoc S2.pr ⟨[], upd_same, IsTs.nil⟩) (List.nodup_append.mpr ⟨S1.nd, by simp, fun a ha b hb e => by rw [List.mem_singleton.mp hb] at e; subst e; exact pnew ha⟩) (by
          rw [List.mem_append, List.mem_singleton]; exact fun h => h.elim S1.no hpO)
        refine ⟨at_, n, as ++ [p], st ++ [[]], _, _, _, _, rfl, fun b o e => ?_, fun a ha => ?_, S3, c', Nat.le_refl _, by omega, ?_, fun ts hts => ?_, .inl ⟨rfl, ?_⟩⟩
        · rw [upd_ne (ne_of_none e hO)]; exact (s1.trans (same_new np)) b o e
        · rcases List.mem_append.mp ha with h | h
          · exact fr1 a h
          · rw [List.mem_singleton.mp h]; exact s1.free np
        · rw [List.length_append, List.length_singleton]; omega
        · rcases List.mem_append.mp hts with h | h
          · exact hal ts h
          · rw [List.mem_singleton.mp h]; exact Nat.zero_le _
        · rw [List.reverse_append]; exact hrd1
      · rw [decide_eq_false h40]
        refine iteF ?_
        refine if_b (decide (ch = 41 ∧ st ≠ [])) (fun Qb qb => ?_) (fun cb2 => ?_) (fun cb2 => ?_)
        · refine ⟨_, rfl, rfl, _, rfl, ?_⟩
          rw [one_eq cl_cps]
          by_cases h41 : ch = 41
          · rw [decide_eq_true h41]
            refine ⟨_, rfl, O, _, rfl, .inl (SqL.of S1.op), _, _, rfl, rfl, _, rfl, ?_⟩
            have eb : decide ((0 : Int) < (((as.map V.ref).length : Nat) : Int)) = decide (ch = 41 ∧ st ≠ []) := by
              refine decide_eq_decide.mpr ?_
              rw [lm, ln]
              constructor
              · intro g; exact ⟨h41, fun e => by rw [e] at g; simp at g⟩
              · intro g; have := List.length_pos_iff.mpr g.2; omega
            rw [eb]
            exact qb
          · rw [decide_eq_false h41]
            rw [decide_eq_false (fun g => h41 g.1)] at qb
            exact qb
        · obtain ⟨h41, h0⟩ := of_decide_eq_true cb2
          obtain ⟨as', a, st', top, rfl, rfl, p', vs, ea, hvs⟩ := paired_last S1.pr (List.length_pos_iff.mpr h0)
          subst h41
          have erev : (st' ++ [top]).reverse ++ [[]] = top :: (st'.reverse ++ [[]]) := by simp
          rw [erev] at hrd1
          have er : rd z.length n (psh st'.reverse (.l top)) (skip (z.cps.toList.drop (at_ + 1))) = R := by
            cases hs : st'.reverse with
            | nil =>
              rw [hs, List.nil_append, rd_41 (by cases top <;> rfl)] at hrd1
              exact hrd1
            | cons x s =>
              rw [hs, List.cons_append, rd_41 (by cases top <;> rfl)] at hrd1
              exact hrd1
          have em : (as' ++ [a]).map V.ref = as'.map V.ref ++ [.ref a] := by simp
          have S1op := S1.op
          rw [em] at S1op
          have nda := List.nodup_append.mp S1.nd
          refine ⟨_, rfl, .inl ⟨rfl, _, SqL.of S1op⟩, O, _, .ref a, rfl, rfl, S1op, last_of _ _, ?_⟩
          rw [List.dropLast_concat]
          have S2 := S1.outer p' nda.1 (fun h => S1.no (List.mem_append_left _ h))
          have naO : a ≠ O := fun e => S1.no (by rw [← e]; simp)
          have k2 : Same H (upd H1 O (.lst (as'.map V.ref))) := fun b o e => by rw [upd_ne (ne_of_none e nO)]; exact s1 b o e
          have ea2 : (upd H1 O (.lst (as'.map V.ref))) a = some (.lst vs) := by rw [upd_ne naO]; exact ea
          have hvs2 : IsTs K (upd H1 O (.lst (as'.map V.ref))) top vs := hvs.tk (TK.put (mut_lst S1op))
          generalize upd H1 O (.lst (as'.map V.ref)) = H2 at S2 k2 ea2 hvs2 ⊢
          refine ⟨a, vs, rfl, .inl ⟨SqL.of ea2, fun tt ntt => ?_⟩⟩
          have S3 := S2.same (same_new ntt (o := .tup vs))
          have tk3 : TK K H2 (upd H2 tt (.tup vs)) := TK.new ntt
          refine ⟨at_, n, as', st', .ref tt, _, _, _, rfl, k2.trans (same_new ntt), fun b hb => fr1 b (List.mem_append_left _ hb), S3, c', Nat.le_refl _, by omega, ?_, fun ts hts => hal ts (List.mem_append_left _ hts), .inr ⟨.l top, IsT.tup (SqT.of upd_same) (hvs2.tk tk3), er⟩⟩
          simp only [List.length_append, List.length_singleton] at hst; omega
        · have h41 : ch ≠ 41 ∨ st = [] := by
            have := of_decide_eq_false cb2
            by_cases h : ch = 41
            · exact .inr (Classical.not_not.mp fun g => this ⟨h, g⟩)
            · exact .inl h
          obtain ⟨top, s, es, ep, e3⟩ : ∃ top s, st.reverse ++ [[]] = top :: s ∧ (∀ t, psh st.reverse t = (top ++ [t]) :: s) ∧ (st = [] → s = []) := by
            cases hs : st.reverse with
            | nil => exact ⟨[], [], rfl, fun t => rfl, fun _ => rfl⟩
            | cons x xs => exact ⟨x, xs ++ [[]], rfl, fun t => rfl, fun e => by rw [e] at hs; cases hs⟩
          rw [es, rd_word (es ▸ full_nb _) h40 (h41.imp id e3)] at hrd1
          refine ⟨_, rfl, ch, lowS, rfl, rfl, _, rfl, ?_⟩
          rw [show decide (ch ∈ lowS.cps.toList) = low ch from rfl]
          cases hl : low ch with
          | false =>
            rw [if_neg (by rw [hl]; decide), eplace] at hrd1
            exact ⟨_, rfl, (show 2 ≤ sizeLine by decide), fun l nl => qe at_ hrd1.symm _ l (s1.trans (same_new nl)) (s1.free nl) upd_same⟩
          | true =>
          rw [if_pos hl] at hrd1
          refine ⟨_, rfl, _, rfl, z, at_, rfl, by omega, hz, ?_⟩
          have eL : runS (lowS ++ figS) at_ z = ((z.cps.toList.drop at_).takeWhile alnum).length := rfl
          rw [eL]
          have rl : at_ + ((ch :: z.cps.toList.drop (at_ + 1)).takeWhile alnum).length ≤ z.length := by
            have := tw_le alnum (ch :: z.cps.toList.drop (at_ + 1))
            simp only [List.length_cons] at this hn
            omega
          have etk := take_tw alnum (ch :: z.cps.toList.drop (at_ + 1))
          have edr := drop_tw alnum (ch :: z.cps.toList.drop (at_ + 1))
          have rpos : 0 < ((ch :: z.cps.toList.drop (at_ + 1)).takeWhile alnum).length := by
            rw [List.takeWhile_cons, low_alnum hl]; simp
          rw [← hd] at etk edr rl rpos hrd1
          generalize hLL : ((z.cps.toList.drop at_).takeWhile alnum).length = L at rl rpos hrd1 etk edr
          refine ⟨_, rfl, _, rfl, _, _, rfl, rfl, _, _, rfl, rfl, _, rfl, ?_⟩
          by_cases h12 : L ≤ 12
          · rw [decide_eq_false (show ¬ (12 : Int) < ((at_ + L : Nat) : Int) - (at_ : Int) by omega)]
            rw [if_pos h12] at hrd1
            refine ⟨_, rfl, _, rfl, _, rfl, _, rfl, _, rfl, z, rfl, hzl, ?_⟩
            refine ⟨_, rfl, _, _, rfl, rfl, ?_⟩
            have ew : (⟨((z.cps.toList.drop at_).takeWhile alnum).toArray⟩ : Str) = cutS z (some (at_ : Int)) (some ((at_ + L : Nat) : Int)) := by
              refine str_ext ?_
              rw [cut_cps (Nat.le_add_right _ _) rl, Nat.add_sub_cancel_left]
              exact etk
            have e1 : at_ + L - 1 + 1 = at_ + L := by omega
            refine ⟨at_ + L - 1, n, as, st, _, _, _, _, by rw [show ((at_ + L - 1 : Nat) : Int) = ((at_ + L : Nat) : Int) - 1 by omega]; rfl, s1, fr1, S1, by omega, by omega, ?_, by omega, fun ts h => by have := hal ts h; omega, .inr ⟨.w _, IsT.str, ?_⟩⟩
            · have := skip_le (z.cps.toList.drop (at_ + L - 1 + 1))
              rw [List.length_drop, slen] at this
              omega
            · rw [ep, e1, ← ew]
              rw [edr, List.drop_drop] at hrd1
              exact hrd1
          · rw [decide_eq_true (show (12 : Int) < ((at_ + L : Nat) : Int) - (at_ : Int) by omega)]
            rw [if_neg h12, eplace] at hrd1
            exact ⟨_, rfl, _, _, rfl, rfl, (show 2 ≤ sizeLine by decide), fun l nl => qe (at_ + 12) hrd1.symm _ l (s1.trans (same_new nl)) (s1.free nl) upd_same⟩
    · rintro σ H2 ⟨at2, n2, as2, st2, fv, z4, z5, z7, rfl, s2, fr2, S2, la2, hat, hn2, hst2, hal2, hf⟩
      have ln2 := paired_len S2.pr
      have lm2 : (as2.map V.ref).length = as2.length := List.length_map _
      refine ⟨_, rfl, _, _, rfl, rfl, ?_⟩
      dsimp only [gName, tSeq]
      rcases hf with ⟨rfl, hr2⟩ | ⟨t, ht, hr2⟩
      · refine if_b false (fun Qb qb => ?_) (fun c => by cases c) (fun _ => ?_)
        · refine ⟨_, rfl, rfl, _, rfl, ?_⟩
          rw [decide_eq_true (rfl : V.non = V.non)]
          exact qb
        · refine ⟨_, rfl, rfl, _, rfl, ?_⟩
          rw [decide_eq_true (rfl : V.non = V.non)]
          exact ⟨at2 + 1, n2, as2, st2, .non, [], _, _, _, _, rfl, s2, fr2, S2, la2, by omega, hn2, hst2, fun ts h => by have := hal2 ts h; omega, hr2, .inl ⟨rfl, rfl⟩⟩
      · refine if_b (decide (st2 = [])) (fun Qb qb => ?_) (fun c => ?_) (fun c => ?_)
        · refine ⟨_, rfl, rfl, _, rfl, ?_⟩
          rw [decide_eq_false (isT_nn ht)]
          refine ⟨_, rfl, O, _, rfl, .inl (SqL.of S2.op), rfl, _, rfl, ?_⟩
          rw [show decide (V.int (((as2.map V.ref).length : Nat) : Int) = V.int 0) = decide (st2 = []) from decide_eq_decide.mpr (by
            rw [lm2, ln2]
            constructor
            · intro e; injection e with e; exact List.eq_nil_of_length_eq_zero (by omega)
            · intro e; rw [e]; rfl)]
          exact qb
        · have e0 := of_decide_eq_true c
          subst e0
          refine ⟨_, rfl, ?_⟩
          exact ⟨at2 + 1, n2, as2, [], fv, [t], _, _, _, _, rfl, s2, fr2, S2, la2, by omega, hn2, hst2, by simp, hr2, .inr ⟨t, rfl, rfl, ht⟩⟩
        · have e0 := of_decide_eq_false c
          refine ⟨_, rfl, rfl, _, rfl, ?_⟩
          rw [decide_eq_false (isT_nn ht)]
          obtain ⟨as', a, st', top, rfl, rfl, p', vs, ea, hvs⟩ := paired_last S2.pr (List.length_pos_iff.mpr e0)
          have em : (as' ++ [a]).map V.ref = as'.map V.ref ++ [.ref a] := by simp
          have S2op := S2.op
          rw [em] at S2op
          have ha0 : H a = none := fr2 a (by simp)
          have lvs : vs.length = top.length := hvs.length
          refine ⟨_, rfl, 1, rfl, O, _, -1, .ref a, rfl, rfl, SqL.of S2op, last_ix, .inl ⟨rfl, _, SqL.of ea⟩, _, rfl, a, _, _, rfl, rfl, ea, ?_, ?_⟩
          · rw [lvs]
            have := hal2 top (by simp)
            exact Nat.lt_of_le_of_lt (by omega : top.length ≤ 10000001) (by decide)
          have S4 := S2.app ea ht
          refine ⟨at2 + 1, n2, as' ++ [a], st' ++ [top ++ [t]], .non, [], _, _, _, _, rfl, fun b o e => ?_, fr2, S4, la2, by omega, hn2, ?_, fun ts hts => ?_, ?_, .inl ⟨rfl, rfl⟩⟩
          · rw [upd_ne (ne_of_none e ha0)]; exact s2 b o e
          · simp only [List.length_append, List.length_singleton] at hst2 ⊢; omega
          · rcases List.mem_append.mp hts with h | h
            · have := hal2 ts (by simp [h]); omega
            · rw [List.mem_singleton.mp h, List.length_append, List.length_singleton]; have := hal2 top (by simp); omega
          · rw [List.reverse_append] at hr2 ⊢
            exact hr2
  · obtain ⟨at_, n, as, st, wv, wt, y4, y5, y6, y7, rfl, s1, fr1, S1, la, hia, hn, hst, hal, hrd1, hw⟩ := hP
    have hd : z.cps.toList.drop at_ = [] := List.drop_eq_nil_of_le (by rw [slen]; omega)
    rw [hd] at hrd1 hn
    cases n with
    | zero => exact absurd hn (Nat.not_lt_zero _)
    | succ n =>
    rcases hw with ⟨rfl, rfl⟩ | ⟨t, rfl, rfl, ht⟩
    · have e2 : R = .error z.length := by
        rw [← hrd1]
        simp only [skip, List.dropWhile_nil, rd]
        cases hs : st.reverse with
        | nil => rfl
        | cons y ys => cases ys <;> cases y <;> (try cases ‹List Tr›) <;> rfl
      refine ⟨_, rfl, rfl, _, rfl, ?_⟩
      rw [decide_eq_true (rfl : V.non = V.non)]
      exact ⟨_, rfl, z, rfl, hzl, (show 2 ≤ sizeLine by decide), fun l nl => qe z.length e2 _ l (s1.trans (same_new nl)) (s1.free nl) upd_same⟩
    · have e2 : R = .ok t := by rw [← hrd1]; rfl
      refine ⟨_, rfl, rfl, _, rfl, ?_⟩
      rw [decide_eq_false (isT_nn ht)]
      exact ⟨_, rfl, (show 2 ≤ sizeLine by decide), fun l nl => qo t e2 _ l wv (s1.trans (same_new nl)) (s1.free nl) upd_same (ht.tk (TK.new nl))⟩

/-! ### _law_draws, _law_take -/
theorem pos1 : (0 : Int) < 2147483647 := by decide
theorem pos2 : (0 : Int) < 2147483629 := by decide
theorem pos3 : (0 : Int) < 1000003 := by decide
theorem scr_len {ns : List Int} (h : ns.length ≤ 63) : (ns.map V.int).length ≤ 63 := by rw [List.length_map]; exact h
def spDraws (K : PySem.W.Frag) : Sp := fun vs H Q _ => ∃ (a : Addr) (ns : List Int) (many : Nat), vs = [.ref a, .int (many : Int)] ∧ SqL K H a (ns.map V.int) ∧ ns.length ≤ 63 ∧ many ≤ 100000 ∧
  ∀ (p : Addr) (H' : Hp) (ds : List Int), Same H H' → H p = none → H' p = some (.lst (ds.map V.int)) → ds.length = many → (∀ x ∈ ds, 0 ≤ x ∧ x < 2147483629) → Q (.ref p) H'
def spTake : Sp := fun vs H Q _ => ∃ (h d : Addr) (ds : List Int) (m : Int), vs = [.ref h, .int m] ∧ Hnd H h d ds ∧ 0 < m ∧
  ∀ (r : Int) (H' : Hp), 0 ≤ r → r < m → Kp (At h) H H' → Hnd H' h d ds → Q (.int r) H'
theorem ok_take {P : Program} {w : World} {K : PySem.W.Frag} {mg : Str → Option Value} {base : Heap} (T : Top K mg) {k : Nat} : FnOk P w K mg base CX0 (k + 1) T.a_law_take T.d_law_take ["_law_hand", "_law_many"] spTake := by
  refine T.F_law_take.ok sc_law_take (fun vs H Q E h => ?_) (fun cdv A outer s H vs Q E hr h => ?_)
  · obtain ⟨h, d, ds, m, rfl, _⟩ := h
    rfl
  obtain ⟨h, d, ds, m, rfl, hh, hm, q⟩ := h
  refine ⟨_, (pss_cons (ps_set (i := 2) sc_law_take.nd rfl (Or.inl rfl) (pe_ix ix_list (pv 0) pe_int (fun _ _ => rfl)))
    (pss_cons (ps_asg (pe_op op_add (pv 2) pe_int) (pg_sub (pv 0) pe_int set_list))
    (pss_cons (ps_set (i := 3) sc_law_take.nd rfl (Or.inl rfl) (pe_ix ix_list (pv 0) pe_int (fun _ _ => rfl)))
    (pss_cons (ps_if (pt_cmpR op_ge (pv 2) (pe_callB call_len_seq rfl T.n_len bo_len (pa_cons (pv 3) pa_nil)) (nomark _)) (pss_one (ps_ret pe_int)) pss_nil)
    (pss_one (ps_ret (pe_op op_mod (pe_op op_fdiv (pe_callTy call_int1 rfl T.n_int bo_int (pa_cons (pe_ix ix_list (pv 3) (pv 2) (fun _ _ => rfl)) pa_nil)) pe_int) (pv 1)))))))), ?_⟩
  obtain ⟨⟨i, e1, i0⟩, e2, ne, nn⟩ := hh
  refine ⟨_, rfl, h, [.ref d, .int i], 1, .int i, rfl, rfl, SqL.of e1, rfl, ?_⟩
  refine ⟨_, rfl, _, _, rfl, rfl, _, rfl, h, [.ref d, .int i], 1, 1, rfl, rfl, e1, rfl, ?_⟩
  have k1 : Kp (At h) H (upd H h (.lst [.ref d, .int (i + 1)])) := Kp.refl.put (.inl rfl)
  have e3 : (upd H h (.lst [.ref d, .int (i + 1)])) d = some (.lst (ds.map V.int)) := by rw [upd_ne ne]; exact e2
  have h1 : Hnd (upd H h (.lst [.ref d, .int (i + 1)])) h d ds := ⟨⟨i + 1, upd_same, by omega⟩, e3, ne, nn⟩
  refine ⟨_, rfl, h, [.ref d, .int (i + 1)], 0, .ref d, rfl, rfl, SqL.of upd_same, rfl, ?_⟩
  refine ⟨_, rfl, _, rfl, d, ds.map V.int, rfl, .inl (SqL.of e3), _, _, rfl, rfl, _, rfl, ?_⟩
  refine ite2 (fun c => ?_) (fun c => ?_)
  · exact q 0 _ (Int.le_refl 0) hm k1 h1
  · have c' : ¬ (((ds.map V.int).length : Nat) : Int) ≤ i := of_decide_eq_false (Bool.eq_false_iff.mpr c)
    rw [List.length_map] at c'
    have hi : i.toNat < ds.length := by omega
    have q2 := atI_map i0 hi
    refine ⟨_, rfl, _, rfl, d, _, i, _, rfl, rfl, SqL.of e3, q2, .inl ⟨_, rfl, ?_⟩⟩
    refine ⟨_, _, rfl, rfl, ⟨by decide, by decide⟩, _, rfl, _, _, rfl, rfl, hm, ?_⟩
    have g0 : 0 ≤ ds[i.toNat] := nn _ (List.getElem_mem hi)
    exact q _ _ (Int.emod_nonneg _ (by omega)) (Int.emod_lt_of_pos _ hm) k1 h1

theorem ok_draws {P : Program} {w : World} {K : PySem.W.Frag} {mg : Str → Option Value} {base : Heap} (T : Top K mg) {k : Nat} : FnOk P w K mg base CX0 (k + 1) T.a_law_draws T.d_law_draws ["_law_script", "_law_many"] (spDraws K) := by
  refine T.F_law_draws.ok sc_law_draws (fun vs H Q E h => ?_) (fun cdv A outer s H vs Q E hr h => ?_)
  · obtain ⟨a, ns, many, rfl, _⟩ := h
    rfl
  obtain ⟨a, ns, many, rfl, hS, h63, hmany, q⟩ := h
  refine ⟨_, (pss_cons (ps_setLc (i := 2) (own := [("_law_cell", 5)]) (g := gName 5) (tt := tYes) (by rfl) sc_law_draws.nd rfl rfl (sw_true rfl rfl rfl (by decide +kernel)) (pi_list (pv 0)) (blkOk_by (N := ["_law_script", "_law_many", "_law_rests", "_law_draws_here", "_law_k", "_law_cell", "_law_mixed", "_law_at"]) (sc := defScope s_law_draws) (by decide +kernel)) (fun _ _ _ _ _ => pg_name (i := 5) sc_law_draws.nd rfl (Or.inl rfl)) (fun _ _ _ _ _ => pts_nil) (fun _ _ _ _ _ => (pe_callB call_abs rfl T.n_abs bo_abs (pa_cons (pe_callTy call_int1 rfl T.n_int bo_int (pa_cons (pv 5) pa_nil)) pa_nil))))
    (pss_cons (ps_set (i := 3) sc_law_draws.nd rfl (Or.inl rfl) (pe_lst pa_nil))
    (pss_cons (ps_for PassesOwn.never rfl (pi_range1 rfl T.n_range (pa_cons (pv 1) pa_nil)) (pg_name (i := 4) sc_law_draws.nd rfl (Or.inl rfl)) (pss_cons (ps_set (i := 5) sc_law_draws.nd rfl (Or.inl rfl) (pv 4))
    (C8.pss_cut (ps_if (pt_cmpR op_gt (pe_callB call_len_seq rfl T.n_len bo_len (pa_cons (pv 0) pa_nil)) pe_int (nomark _)) (pss_cons (ps_set (i := 7) sc_law_draws.nd rfl (Or.inl rfl) (pe_op op_mod (pv 4) (pe_callB call_len_seq rfl T.n_len bo_len (pa_cons (pv 0) pa_nil))))
    (pss_cons (ps_set (i := 5) sc_law_draws.nd rfl (Or.inl rfl) (pe_callTy call_int1 rfl T.n_int bo_int (pa_cons (pe_ix ix_list (pv 0) (pv 7) (fun _ _ => rfl)) pa_nil)))
    (pss_one (ps_if (PW.pt (pw_and (pt_cmpR op_ge (pv 5) (pe_op op_pow pe_int pe_int) (nomark _)) (pw_and1 (pt_cmpR op_gt (pe_ix ix_list (pv 2) (pv 7) (fun _ _ => rfl)) pe_int (nomark _))))) (pss_cons (ps_expr (pe_bm PySem.F.plainAttrs_list PySem.F.slot_list_append PySem.F.type_list_append mt_append (pv 3) (pa_cons (pe_op op_mod (pe_callTy call_int1 rfl T.n_int bo_int (pa_cons (pe_ix ix_list (pv 2) (pv 7) (fun _ _ => rfl)) pa_nil)) pe_int) pa_nil)))
    (pss_cons (ps_asg (pe_op op_fdiv (pe_callTy call_int1 rfl T.n_int bo_int (pa_cons (pe_ix ix_list (pv 2) (pv 7) (fun _ _ => rfl)) pa_nil)) pe_int) (pg_sub (pv 2) (pv 7) set_list))
    (pss_one ps_continue))) pss_nil)))) pss_nil)
    (pss_cons (ps_set (i := 6) sc_law_draws.nd rfl (Or.inl rfl) (pe_op op_mod (pe_callTy call_int1 rfl T.n_int bo_int (pa_cons (pe_op op_add (pe_op op_add (pe_op op_mul (pv 5) pe_int) (pe_op op_mul (pv 4) pe_int)) pe_int) pa_nil)) pe_int))
    (pss_cons (ps_set (i := 6) sc_law_draws.nd rfl (Or.inl rfl) (pe_op op_mod (pe_callTy call_int1 rfl T.n_int bo_int (pa_cons (pe_op op_add (pe_op op_fdiv (pe_op op_mul (pv 6) (pv 6)) pe_int) (pv 6)) pa_nil)) pe_int))
    (pss_one (ps_expr (pe_bm PySem.F.plainAttrs_list PySem.F.slot_list_append PySem.F.type_list_append mt_append (pv 3) (pa_cons (pe_op op_mod (pe_callTy call_int1 rfl T.n_int bo_int (pa_cons (pe_op op_add (pe_op op_fdiv (pe_op op_mul (pv 6) (pv 6)) pe_int) (pe_op op_mul (pv 4) pe_int)) pa_nil)) pe_int) pa_nil)))))))))
    (pss_one (ps_ret (pv 3)))))), ?_⟩
  have l63 : (ns.map V.int).length = ns.length := List.length_map _
  refine ⟨.ref a, rfl, a, rfl, ⟨_, hS⟩, fun D hD => lc_list (K := K) (a := a) (xs := ns.map V.int)
    (fun i H' => ∃ rs : List Int, Same H H' ∧ H' D = some (.lst (rs.map V.int)) ∧ rs.length = i ∧ ∀ x ∈ rs, 0 ≤ x)
    ⟨[], same_new hD, upd_same, rfl, fun _ h => nomatch h⟩ (fun i H' _ h => let ⟨_, s2, _⟩ := h; s2.seq hS) (fun i x H2 hx h => ?_) (fun H2 h => ?_)⟩
  · obtain ⟨rs, s2, e2, l2, p2⟩ := h
    rw [List.getElem?_map] at hx
    obtain ⟨n, hn, rfl⟩ := Option.map_eq_some_iff.mp hx
    have hi : i < ns.length := (List.getElem?_eq_some_iff.mp hn).1
    refine ⟨rfl, _, rfl, .inl ⟨n, rfl, n, rfl, _, e2, szl (by rw [List.length_map]; omega), rs ++ [if n < 0 then -n else n], fun b o e => ?_, ?_, by simp [l2], fun x hx => ?_⟩⟩
    · have nb : b ≠ D := ne_of_none e hD
      rw [upd_ne nb]; exact s2 b o e
    · rw [upd_same]; simp
    · rcases List.mem_append.mp hx with z | z
      · exact p2 x z
      · have := List.mem_singleton.mp z
        subst this
        split <;> omega
  obtain ⟨rs, s2, e2, l2, p2⟩ := h
  rw [l63] at l2
  refine ⟨Nat.zero_le _, fun L nL => ?_⟩
  have nDL : D ≠ L := ne_of_none e2 nL
  refine ⟨_, rfl, (many : Int), rfl, by omega, by omega, ?_⟩
  refine for_range (lo := 0) (n := (many : Int).toNat) (fun i σ H3 => ∃ (rs ds : List Int) (y4 y5 y6 y7 : Option V), σ = [some (.ref a), some (.int many), some (.ref D), some (.ref L), y4, y5, y6, y7] ∧ Same H H3 ∧
    H3 D = some (.lst (rs.map V.int)) ∧ rs.length = ns.length ∧ (∀ x ∈ rs, 0 ≤ x) ∧ H3 L = some (.lst (ds.map V.int)) ∧ ds.length = i ∧ (∀ x ∈ ds, 0 ≤ x ∧ x < 2147483629))
    ⟨rs, [], none, none, none, none, rfl, s2.trans (same_new nL), by rw [upd_ne nDL]; exact e2, l2, p2, upd_same, rfl, fun _ h => nomatch h⟩ (fun i σ H3 hi hP => ?_) (fun σ H3 hP => ?_)
  · obtain ⟨rs, ds, y4, y5, y6, y7, rfl, s3, e3, l3, p3, f3, m3, b3⟩ := hP
    have hm : ds.length ≤ 100000 := by omega
    have put1 : ∀ (z : Int) (H4 : Hp), Same H H4 → Same H (upd H4 L (.lst ((ds.map V.int) ++ [.int z]))) := fun z H4 s4 b o e => by
      rw [upd_ne (ne_of_none (s2 b o e) nL)]; exact s4 b o e
    -- cell = k
    refine ⟨.int (0 + i), rfl, ?_⟩
    -- if len(script) > 0
    refine ⟨fun σ H4 => ∃ (c : Int) (y6 y7 : Option V), σ = [some (.ref a), some (.int many), some (.ref D), some (.ref L), some (.int (0 + i)), some (.int c), y6, y7] ∧ H4 = H3, ?_, ?_⟩
    · refine ⟨_, rfl, a, _, rfl, .inl (s3.seq hS), _, _, rfl, rfl, _, rfl, ?_⟩
      refine ite2 (fun c => ?_) (fun _ => ⟨_, _, _, rfl, rfl⟩)
      have c' := of_decide_eq_true c
      rw [l63] at c'
      have hpos : (0 : Int) < ((ns.map V.int).length : Nat) := by rw [l63]; omega
      refine ⟨_, rfl, _, rfl, a, _, rfl, .inl (s3.seq hS), _, _, rfl, rfl, hpos, ?_⟩
      have b0 : 0 ≤ (0 + (i : Int)) % ((ns.map V.int).length : Nat) := Int.emod_nonneg _ (by omega)
      have b1 : (0 + (i : Int)) % ((ns.map V.int).length : Nat) < ((ns.map V.int).length : Nat) := Int.emod_lt_of_pos _ hpos
      dsimp only
      generalize (0 + (i : Int)) % ((ns.map V.int).length : Nat) = j at b0 b1 ⊢
      rw [l63] at b1
      refine ⟨_, rfl, _, rfl, a, _, j, _, rfl, rfl, s3.seq hS, atI_map b0 (by omega), .inl ⟨_, rfl, ?_⟩⟩
      refine ⟨_, rfl, _, _, rfl, rfl, ⟨by decide, by decide, by decide⟩, _, _, rfl, rfl, _, rfl, ?_⟩
      refine ite2 (fun c2 => ?_) (fun _ => iteF ⟨_, _, _, rfl, rfl⟩)
      refine ⟨_, rfl, _, rfl, D, _, j, _, rfl, rfl, SqL.of e3, atI_map b0 (by omega), _, _, rfl, rfl, _, rfl, ?_⟩
      refine ite2 (fun c3 => ?_) (fun _ => ⟨_, _, _, rfl, rfl⟩)
      -- append
      refine ⟨_, rfl, .inl ⟨rfl, _, SqL.of f3⟩, _, rfl, _, rfl, D, _, j, _, rfl, rfl, SqL.of e3, atI_map b0 (by omega), .inl ⟨_, rfl, ?_⟩⟩
      refine ⟨_, _, rfl, rfl, pos3, L, _, _, rfl, rfl, f3, szl (by rw [List.length_map]; omega), ?_⟩
      have r0 : 0 ≤ rs[j.toNat]'(by omega) := p3 _ (List.getElem_mem _)
      dsimp only
      generalize rs[j.toNat]'(by omega) = rj at r0 ⊢
      -- rests[at] = ..
      have e3' : (upd H3 L (.lst ((ds.map V.int) ++ [.int (rj % 1000003)]))) D = some (.lst (rs.map V.int)) := by rw [upd_ne nDL]; exact e3
      refine ⟨_, rfl, _, rfl, D, _, j, _, rfl, rfl, SqL.of e3', atI_map b0 (by omega), .inl ⟨_, rfl, ?_⟩⟩
      refine ⟨_, _, rfl, rfl, ⟨by decide, by decide⟩, _, rfl, _, rfl, D, _, j, _, rfl, rfl, e3', ixN_of b0 (by rw [List.length_map]; omega), ?_⟩
      have r0' : 0 ≤ rs[j.toNat]'(by omega) := p3 _ (List.getElem_mem _)
      dsimp only
      generalize rs[j.toNat]'(by omega) = rj' at r0' ⊢
      refine ⟨rs.set j.toNat (rj' / 1000003), ds ++ [rj % 1000003], _, _, _, _, rfl, fun b o e => ?_, ?_, by simp [l3], fun x hx => ?_, ?_, by simp [m3], fun x hx => ?_⟩
      · rw [upd_ne (ne_of_none e hD)]
        exact put1 _ _ s3 b o e
      · rw [upd_same, List.map_set]
      · rcases List.mem_or_eq_of_mem_set hx with z | z
        · exact p3 x z
        · subst z; exact Int.ediv_nonneg r0' (by decide)
      · rw [upd_ne nDL.symm, upd_same]; simp
      · rcases List.mem_append.mp hx with z | z
        · exact b3 x z
        · have := List.mem_singleton.mp z
          subst this
          have := Int.emod_nonneg rj (show (1000003 : Int) ≠ 0 by decide)
          have := Int.emod_lt_of_pos rj (show (0 : Int) < 1000003 by decide)
          omega
    · rintro σ H4 ⟨c, y6, y7, rfl, rfl⟩
      refine ⟨_, rfl, _, _, rfl, rfl, .inr ⟨by decide, by decide⟩, _, rfl, _, _, rfl, rfl, .inr ⟨by decide, by decide⟩, _, _, rfl, rfl, _, _, rfl, rfl, .inl ⟨_, rfl, _, _, rfl, rfl, pos1, ?_⟩⟩
      have g0 := Int.emod_nonneg (c * 48271 + (0 + (i : Int)) * 69621 + 11) (show (2147483647 : Int) ≠ 0 by decide)
      have g1 := Int.emod_lt_of_pos (c * 48271 + (0 + (i : Int)) * 69621 + 11) (show (0 : Int) < 2147483647 by decide)
      dsimp only
      generalize (c * 48271 + (0 + (i : Int)) * 69621 + 11) % 2147483647 = m1 at g0 g1 ⊢
      refine ⟨_, rfl, _, rfl, _, _, rfl, rfl, .inl ⟨by omega, by omega⟩, _, _, rfl, rfl, ⟨by decide, by decide⟩, _, rfl, _, _, rfl, rfl, .inl ⟨_, rfl, _, _, rfl, rfl, pos2, ?_⟩⟩
      have g0 := Int.emod_nonneg (m1 * m1 / 4096 + m1) (show (2147483629 : Int) ≠ 0 by decide)
      have g1 := Int.emod_lt_of_pos (m1 * m1 / 4096 + m1) (show (0 : Int) < 2147483629 by decide)
      dsimp only
      generalize (m1 * m1 / 4096 + m1) % 2147483629 = m2 at g0 g1 ⊢
      refine ⟨_, rfl, .inl ⟨rfl, _, SqL.of f3⟩, _, rfl, _, rfl, _, _, rfl, rfl, .inl ⟨by omega, by omega⟩, _, _, rfl, rfl, ⟨by decide, by decide⟩, _, rfl, _, _, rfl, rfl, .inr ⟨by decide, by decide⟩, _, _, rfl, rfl, .inl ⟨_, rfl, _, _, rfl, rfl, pos2, ?_⟩⟩
      have g0 := Int.emod_nonneg (m2 * m2 / 4096 + (0 + (i : Int)) * 7919) (show (2147483629 : Int) ≠ 0 by decide)
      have g1 := Int.emod_lt_of_pos (m2 * m2 / 4096 + (0 + (i : Int)) * 7919) (show (0 : Int) < 2147483629 by decide)
      dsimp only
      generalize (m2 * m2 / 4096 + (0 + (i : Int)) * 7919) % 2147483629 = m3' at g0 g1 ⊢
      refine ⟨L, _, _, rfl, rfl, f3, szl (by rw [List.length_map]; omega), ?_⟩
      refine ⟨rs, ds ++ [m3'], _, _, _, _, rfl, put1 _ _ s3, by rw [upd_ne nDL]; exact e3, l3, p3, by rw [upd_same]; simp, by simp [m3], fun x hx => ?_⟩
      rcases List.mem_append.mp hx with z | z
      · exact b3 x z
      · have := List.mem_singleton.mp z
        subst this
        exact ⟨g0, g1⟩
  · obtain ⟨rs, ds, y4, y5, y6, y7, rfl, s3, e3, l3, p3, f3, m3, b3⟩ := hP
    exact ⟨_, rfl, q L H3 ds s3 (s2.free nL) f3 (by omega) b3⟩

/-! ### _law_word, _law_value, _law_like -/
def spWordH : Sp := fun vs H Q _ => ∃ (h d : Addr) (ds : List Int), vs = [.ref h] ∧ Hnd H h d ds ∧
  ∀ (s : Str) (H' : Hp), WOk s → Kp (At h) H H' → Hnd H' h d ds → Q (.str s) H'
theorem at4 {x y z u : Int} {r : Int} (h0 : 0 ≤ r) (h1 : r < 4) : ∃ v, atI [V.int x, .int y, .int z, .int u] r = some (.int v) ∧ (v = x ∨ v = y ∨ v = z ∨ v = u) := by
  have e : r = 0 ∨ r = 1 ∨ r = 2 ∨ r = 3 := by omega
  rcases e with rfl | rfl | rfl | rfl
  · exact ⟨x, rfl, .inl rfl⟩
  · exact ⟨y, rfl, .inr (.inl rfl)⟩
  · exact ⟨z, rfl, .inr (.inr (.inl rfl))⟩
  · exact ⟨u, rfl, .inr (.inr (.inr rfl))⟩
theorem low26 : lowS.cps.toList.length = 26 := by decide +kernel
theorem aln36 : (lowS ++ figS).cps.toList.length = 36 := by decide +kernel
theorem at_mem {l : List Nat} {n : Nat} (hl : l.length = n) {r : Int} (h0 : 0 ≤ r) (h1 : r < n) : ∃ c, atI l r = some c ∧ c ∈ l := by
  have hr : r.toNat < l.length := by omega
  exact ⟨l[r.toNat], atI_of h0 (List.getElem?_eq_getElem hr), List.getElem_mem _⟩
theorem app_cps (s t : Str) : (s ++ t).cps.toList = s.cps.toList ++ t.cps.toList := by
  show (s.cps ++ t.cps).toList = _
  simp
theorem ok_word {P : Program} {w : World} {K : PySem.W.Frag} {mg : Str → Option Value} {base : Heap} (T : Top K mg) {k : Nat} (G_law_take : FnOk P w K mg base CX0 1 T.a_law_take T.d_law_take ["_law_hand", "_law_many"] spTake) : FnOk P w K mg base CX0 (k + 2) T.a_law_word T.d_law_word ["_law_hand"] spWordH := by
  refine T.F_law_word.ok sc_law_word (fun vs H Q E h => ?_) (fun cdv A outer s H vs Q E hr h => ?_)
  · obtain ⟨h, d, ds, rfl, _⟩ := h
    rfl
  obtain ⟨h, d, ds, rfl, hh, q⟩ := h
  refine ⟨_, (pss_cons (ps_set (i := 1) sc_law_word.nd rfl (Or.inl rfl) pe_str)
    (pss_cons (ps_set (i := 2) sc_law_word.nd rfl (Or.inl rfl) (pe_ix ix_list (pe_lst (pa_cons pe_int (pa_cons pe_int (pa_cons (pe_op op_add pe_int (pe_call G_law_take (hr.mono (by omega)) rfl T.m_law_take T.F_law_take.kp T.b_law_take .nil pass0 (pa_cons (pv 0) (pa_cons pe_int pa_nil)))) (pa_cons pe_int pa_nil))))) (pe_call G_law_take (hr.mono (by omega)) rfl T.m_law_take T.F_law_take.kp T.b_law_take .nil pass0 (pa_cons (pv 0) (pa_cons pe_int pa_nil))) (fun _ _ => rfl)))
    (pss_cons (ps_set (i := 3) sc_law_word.nd rfl (Or.inl rfl) (pe_ix ix_str (pv 1) (pe_call G_law_take (hr.mono (by omega)) rfl T.m_law_take T.F_law_take.kp T.b_law_take .nil pass0 (pa_cons (pv 0) (pa_cons pe_int pa_nil))) (fun _ _ => rfl)))
    (pss_cons (ps_for PassesOwn.never rfl (pi_range1 rfl T.n_range (pa_cons (pe_op op_sub (pv 2) pe_int) pa_nil)) (pg_name (i := 4) sc_law_word.nd rfl (Or.inl rfl)) (pss_one (ps_set (i := 3) sc_law_word.nd rfl (Or.inl rfl) (pe_op op_add_str (pv 3) (pe_ix ix_str (pe_op op_add_str (pv 1) pe_str) (pe_call G_law_take (hr.mono (by omega)) rfl T.m_law_take T.F_law_take.kp T.b_law_take .nil pass0 (pa_cons (pv 0) (pa_cons pe_int pa_nil))) (fun _ _ => rfl))))))
    (pss_one (ps_ret (pv 3))))))), ?_⟩
  refine ⟨_, rfl, h, d, ds, 12, rfl, hh, by decide, fun r1 H1 r1a r1b k1 hh1 => ⟨_, _, rfl, rfl, by show 4 ≤ sizeLine; decide, fun L nL => ?_⟩⟩
  have hh2 := hh1.new (o := .lst [.int 1, .int 2, .int (1 + r1), .int 12]) nL
  refine ⟨_, rfl, h, d, ds, 4, rfl, hh2, by decide, fun r2 H2 r2a r2b k2 hh3 => ?_⟩
  have eL : H2 L = some (.lst [.int 1, .int 2, .int (1 + r1), .int 12]) := k2 L _ (hh1.neH nL) upd_same
  obtain ⟨sz, ea, hs⟩ := at4 (x := 1) (y := 2) (z := 1 + r1) (u := 12) r2a r2b
  have kk : Kp (At h) H H2 := (k1.new nL).trans k2
  refine ⟨L, _, r2, .int sz, rfl, rfl, SqL.of eL, ea, ?_⟩
  refine ⟨_, rfl, _, rfl, h, d, ds, 26, rfl, hh3, by decide, fun r3 H3 r3a r3b k3 hh4 => ?_⟩
  obtain ⟨c, ec, hc⟩ := at_mem low26 r3a r3b
  have hcl : low c = true := decide_eq_true hc
  refine ⟨lowS, r3, c, rfl, rfl, by decide +kernel, ec, ?_⟩
  refine ⟨_, rfl, _, _, rfl, rfl, sz - 1, rfl, by omega, by omega, ?_⟩
  refine for_range (lo := 0) (n := (sz - 1).toNat) (fun i σ H' => ∃ (s : Str) (r : List Nat) (y4 : Option V), σ = [some (.ref h), some (.str lowS), some (.int sz), some (.str s), y4] ∧ s.cps.toList = c :: r ∧ r.length = i ∧ (∀ x ∈ r, alnum x = true) ∧ Kp (At h) H H' ∧ Hnd H' h d ds)
    ⟨⟨#[c]⟩, [], _, rfl, rfl, rfl, fun _ h => absurd h List.not_mem_nil, kk.trans k3, hh4⟩ (fun i σ H' hi hP => ?_) (fun σ H' hP => ?_)
  · obtain ⟨s, r, y4, rfl, es, er, ha, k4, hh5⟩ := hP
    have ls : s.length = i + 1 := by
      rw [← slen, es, List.length_cons, er]
    refine ⟨_, rfl, _, rfl, lowS, figS, rfl, rfl, by decide +kernel, ?_⟩
    refine ⟨_, rfl, h, d, ds, 36, rfl, hh5, by decide, fun r5 H5 r5a r5b k5 hh6 => ?_⟩
    obtain ⟨c5, ec5, hc5⟩ := at_mem aln36 r5a r5b
    refine ⟨lowS ++ figS, r5, c5, rfl, rfl, by decide +kernel, ec5, ?_⟩
    refine ⟨s, ⟨#[c5]⟩, rfl, rfl, ?_, ?_⟩
    · have : (⟨#[c5]⟩ : Str).length = 1 := rfl
      rw [ls, this]; exact OG.sz (by omega)
    · refine ⟨s ++ ⟨#[c5]⟩, r ++ [c5], _, rfl, ?_, by simp [er], fun x hx => ?_, k4.trans k5, hh6⟩
      · rw [app_cps, es]; rfl
      · rcases List.mem_append.mp hx with z | z
        · exact ha x z
        · rw [List.mem_singleton.mp z]; exact decide_eq_true hc5
  · obtain ⟨s, r, y4, rfl, es, er, ha, k4, hh5⟩ := hP
    exact ⟨_, rfl, q s H' ⟨c, r, es, hcl, ha, by omega⟩ k4 hh5⟩
/-- sizes of drawn trees -/
def bd : Nat → Nat
  | 0 => 1
  | n + 1 => 11 * bd n + 1
theorem bd_mono : ∀ {m n : Nat}, m ≤ n → bd m ≤ bd n := by
  intro m n h
  induction h with
  | refl => exact Nat.le_refl _
  | step _ ih => exact Nat.le_trans ih (by show bd _ ≤ 11 * bd _ + 1; omega)
def spValue (K : PySem.W.Frag) (n : Nat) : Sp := fun vs H Q _ => ∃ (h d : Addr) (ds : List Int) (m : Nat), vs = [.ref h, .int (m : Int)] ∧ m < n ∧ Hnd H h d ds ∧
  ∀ (t : Tr) (v : V) (H' : Hp), TOk t → t.depth ≤ m → t.size ≤ bd m → IsT K H' t v → Kp (At h) H H' → Hnd H' h d ds → Q v H'
theorem at2 {x y : Int} {r : Int} (h0 : 0 ≤ r) (h1 : r < 2) : ∃ v, atI [V.int x, .int y] r = some (.int v) ∧ (v = x ∨ v = y) := by
  have e : r = 0 ∨ r = 1 := by omega
  rcases e with rfl | rfl
  · exact ⟨x, rfl, .inl rfl⟩
  · exact ⟨y, rfl, .inr rfl⟩
theorem ok_value {P : Program} {w : World} {K : PySem.W.Frag} {mg : Str → Option Value} {base : Heap} (T : Top K mg) (G_law_take : FnOk P w K mg base CX0 1 T.a_law_take T.d_law_take ["_law_hand", "_law_many"] spTake) (G_law_word : FnOk P w K mg base CX0 2 T.a_law_word T.d_law_word ["_law_hand"] spWordH) :
    ∀ n : Nat, FnOk P w K mg base CX0 (n + 2) T.a_law_value T.d_law_value ["_law_hand", "_law_depth"] (spValue K n) := by
  intro n
  induction n with
  | zero =>
    have no : ∀ vs H Q E, ¬ spValue K 0 vs H Q E := fun vs H Q E h => by
      obtain ⟨_, _, _, m, _, hm, _⟩ := h
      exact Nat.not_lt_zero _ hm
    exact ⟨fun vs H Q E h => absurd h (no vs H Q E), fun A outer s H args us vs Q E _ _ _ _ h => absurd h (no vs H Q E)⟩
  | succ n G_law_value =>
  refine T.F_law_value.ok sc_law_value (fun vs H Q E h => ?_) (fun cdv A outer s H vs Q E hr h => ?_)
  · obtain ⟨h, d, ds, m, rfl, _⟩ := h
    rfl
  obtain ⟨h, d, ds, m, rfl, hm, hh, q⟩ := h
  refine ⟨_, (pss_cons (ps_if (PW.pt (pw_or (pt_cmpR op_eq (pv 1) pe_int (nomark _)) (pw_or1 (pt_cmpR op_eq (pe_call G_law_take (hr.mono (by omega)) rfl T.m_law_take T.F_law_take.kp T.b_law_take .nil pass0 (pa_cons (pv 0) (pa_cons pe_int pa_nil))) pe_int (nomark _))))) (pss_one (ps_ret (pe_call G_law_word (hr.mono (by omega)) rfl T.m_law_word T.F_law_word.kp T.b_law_word .nil pass0 (pa_cons (pv 0) pa_nil)))) pss_nil)
    (pss_cons (ps_set (i := 2) sc_law_value.nd rfl (Or.inl rfl) (pe_ix ix_list (pe_lst (pa_cons (pe_call G_law_take (hr.mono (by omega)) rfl T.m_law_take T.F_law_take.kp T.b_law_take .nil pass0 (pa_cons (pv 0) (pa_cons pe_int pa_nil))) (pa_cons (pe_call G_law_take (hr.mono (by omega)) rfl T.m_law_take T.F_law_take.kp T.b_law_take .nil pass0 (pa_cons (pv 0) (pa_cons pe_int pa_nil))) pa_nil))) (pe_op op_fdiv (pe_call G_law_take (hr.mono (by omega)) rfl T.m_law_take T.F_law_take.kp T.b_law_take .nil pass0 (pa_cons (pv 0) (pa_cons pe_int pa_nil))) pe_int) (fun _ _ => rfl)))
    (pss_one (ps_ret (pe_callTy call_tuple_of rfl T.n_tuple bo_tuple (pa_cons (pe_lc (own := [("_law_k", 3)]) (g := gName 3) (tt := tYes) (by rfl) sc_law_value.nd (pi_range1 rfl T.n_range (pa_cons (pv 2) pa_nil)) (blkOk_by (N := ["_law_hand", "_law_depth", "_law_many", "_law_k"]) (sc := defScope s_law_value) (by decide +kernel)) (fun _ _ _ _ _ => pg_name (i := 3) sc_law_value.nd rfl (Or.inl rfl)) (fun _ _ _ _ _ => pts_nil) (fun _ _ _ _ _ => (pe_call G_law_value (hr.mono (by omega)) rfl T.m_law_value T.F_law_value.kp T.b_law_value .nil pass0 (pa_cons (pv 0) (pa_cons (pe_op op_sub (pv 1) pe_int) pa_nil))))) pa_nil)))))), ?_⟩
  -- a word is handed back
  have wordW : ∀ (H1 : Hp), Kp (At h) H H1 → Hnd H1 h d ds → ∀ (s : Str) (H' : Hp), WOk s → Kp (At h) H1 H' → Hnd H' h d ds → Q (.str s) H' := fun H1 k1 hh1 s H' ok k2 hh2 =>
    q (.w s) _ H' (by simpa [TOk] using ok) (Nat.zero_le _) (by
      have := bd_mono (Nat.zero_le m)
      simpa [Tr.size, bd] using this) IsT.str (k1.trans k2) hh2
  refine ⟨_, rfl, rfl, _, rfl, ?_⟩
  by_cases hm0 : m = 0
  · rw [decide_eq_true (show V.int (m : Int) = V.int 0 by rw [hm0]; rfl)]
    exact ⟨_, rfl, h, d, ds, rfl, hh, fun s H' ok k1 hh1 => wordW H (Kp.refl) hh s H' ok k1 hh1⟩
  rw [decide_eq_false (show ¬ V.int (m : Int) = V.int 0 by intro e; injection e with e; omega)]
  refine ⟨_, rfl, h, d, ds, 3, rfl, hh, by decide, fun r1 H1 r1a r1b k1 hh1 => ⟨rfl, _, rfl, ?_⟩⟩
  refine ite2 (fun _ => ⟨_, rfl, h, d, ds, rfl, hh1, fun s H' ok k2 hh2 => wordW H1 k1 hh1 s H' ok k2 hh2⟩) (fun _ => ?_)
  refine ⟨_, rfl, h, d, ds, 5, rfl, hh1, by decide, fun r2 H2 r2a r2b k2 hh2 => ⟨_, rfl, h, d, ds, 12, rfl, hh2, by decide, fun r3 H3 r3a r3b k3 hh3 => ⟨by show 2 ≤ sizeLine; decide, fun L nL => ?_⟩⟩⟩
  refine ⟨_, rfl, h, d, ds, 4, rfl, hh3.new nL, by decide, fun r4 H4 r4a r4b k4 hh4 => ⟨_, _, rfl, rfl, ⟨by decide, by decide⟩, ?_⟩⟩
  have eL : H4 L = some (.lst [.int r2, .int r3]) := k4 L _ (hh3.neH nL) upd_same
  obtain ⟨many, ea, hs⟩ := at2 (x := r2) (y := r3) (r := r4 / 3) (by omega) (by omega)
  have kk : Kp (At h) H H4 := ((k1.trans (k2.trans k3)).new nL).trans k4
  have hmany : 0 ≤ many ∧ many ≤ 11 := by omega
  refine ⟨L, _, _, .int many, rfl, rfl, SqL.of eL, ea, ?_⟩
  refine ⟨_, rfl, many, rfl, by omega, by omega, fun D nD => ?_⟩
  refine lc_range (lo := 0) (n := many.toNat) (fun i H' => ∃ (ts : List Tr) (vs : List V), Kp (At h) H H' ∧ Hnd H' h d ds ∧ H' D = some (.lst vs) ∧ IsTs K H' ts vs ∧ ts.length = i ∧ ∀ t ∈ ts, TOk t ∧ t.depth ≤ m - 1 ∧ t.size ≤ bd (m - 1))
    ⟨[], [], kk.new nD, hh4.new nD, upd_same, IsTs.nil, rfl, fun _ h => absurd h List.not_mem_nil⟩ (fun i H5 hi hP => ?_) (fun H5 hP => ?_)
  · obtain ⟨ts, vs, k5, hh5, eD, hts, lt, hall⟩ := hP
    have nDh : D ≠ h := hh4.neH nD
    have nDd : D ≠ d := hh4.neD nD
    have nDH : H D = none := (Kp.fresh kk (fun z => nDh z) nD)
    refine ⟨rfl, _, rfl, _, rfl, _, _, rfl, rfl, h, d, ds, m - 1, ?_, by omega, hh5, fun t v H6 ok dp szv hv k6 hh6 => ?_⟩
    · have e1 : (m : Int) - 1 = ((m - 1 : Nat) : Int) := by omega
      show [V.ref h, V.int ((m : Int) - 1)] ++ [] = _
      rw [e1]; rfl
    · have eD6 : H6 D = some (.lst vs) := k6 D _ nDh eD
      have tk6 := hh5.tk (K := K) k6
      have lv := hts.length
      refine ⟨vs, eD6, szl (by omega), ts ++ [t], vs ++ [v], (k5.trans k6).put (.inr nDH), hh6.put nDh nDd, upd_same, ?_, by simp [lt], fun u hu => ?_⟩
      · have tk7 : TK K H6 (upd H6 D (.lst (vs ++ [v]))) := TK.put (mut_lst eD6)
        exact ((hts.tk tk6).tk tk7).snoc (hv.tk tk7)
      · rcases List.mem_append.mp hu with z | z
        · exact hall u z
        · rw [List.mem_singleton.mp z]; exact ⟨ok, dp, szv⟩
  · obtain ⟨ts, vs, k5, hh5, eD, hts, lt, hall⟩ := hP
    have nDh : D ≠ h := hh4.neH nD
    refine ⟨D, vs, rfl, .inl ⟨SqL.of eD, fun l nl => ?_⟩⟩
    have tkl : TK K H5 (upd H5 l (.tup vs)) := TK.new nl
    obtain ⟨m', rfl⟩ : ∃ m', m = m' + 1 := ⟨m - 1, by omega⟩
    rw [Nat.add_sub_cancel] at hall
    refine q (.l ts) _ _ ?_ ?_ ?_ (IsT.tup (SqT.of upd_same) (hts.tk tkl)) (k5.new nl) (hh5.new nl)
    · simp only [TOk]; exact toks_of fun t ht => (hall t ht).1
    · have := Tr.depths_le (ts := ts) (n := m') fun t ht => (hall t ht).2.1
      simp only [Tr.depth]; omega
    · have h1 := Tr.sizes_le (ts := ts) (n := bd m') fun t ht => (hall t ht).2.2
      have h2 : ts.length * bd m' ≤ 11 * bd m' := Nat.mul_le_mul_right _ (by omega)
      simp only [Tr.size, bd]; omega

/-! ### _law_piece -/
theorem wok_len {s : Str} (h : WOk s) : s.length ≤ 12 := by
  obtain ⟨c, r, e, _, _, h12⟩ := h
  rw [← slen, e, List.length_cons]; omega
theorem fig10 : figS.cps.toList.length = 10 := by decide +kernel
theorem atS4 {r : Int} (h0 : 0 ≤ r) (h1 : r < 4) : ∃ x : Str, atI [V.str " ", .str "\n", .str "  ", .str "\n "] r = some (.str x) ∧ x.length ≤ 24 := by
  have e : r = 0 ∨ r = 1 ∨ r = 2 ∨ r = 3 := by omega
  rcases e with rfl | rfl | rfl | rfl
  · exact ⟨_, rfl, by decide +kernel⟩
  · exact ⟨_, rfl, by decide +kernel⟩
  · exact ⟨_, rfl, by decide +kernel⟩
  · exact ⟨_, rfl, by decide +kernel⟩
theorem atS3 {r : Int} (h0 : 0 ≤ r) (h1 : r < 3) : ∃ x : Str, atI [V.str "", .str "a", .str "1"] r = some (.str x) ∧ x.length ≤ 1 := by
  have e : r = 0 ∨ r = 1 ∨ r = 2 := by omega
  rcases e with rfl | rfl | rfl
  · exact ⟨_, rfl, by decide +kernel⟩
  · exact ⟨_, rfl, by decide +kernel⟩
  · exact ⟨_, rfl, by decide +kernel⟩
def strg : Str := "ABZ-_.,;:!?'\"[]{}<>=+*/|&#@^~`$\\\t"
theorem strg_len : strg.cps.toList.length = 33 := by decide +kernel
theorem cutS_12 {r : Int} (h0 : 0 ≤ r) (h1 : r ≤ 12) : (cutS "abcdefghijkl" none (some r)).length ≤ 12 := by
  have : ∀ n ≤ 12, (cutS "abcdefghijkl" none (some ((n : Nat) : Int))).length ≤ 12 := by decide +kernel
  have e := this r.toNat (by omega)
  rwa [show ((r.toNat : Nat) : Int) = r by omega] at e
def spPiece : Sp := fun vs H Q _ => ∃ (h d : Addr) (ds : List Int), vs = [.ref h] ∧ Hnd H h d ds ∧
  ∀ (s : Str) (H' : Hp), s.length ≤ 24 → Kp (At h) H H' → Hnd H' h d ds → Q (.str s) H'
theorem ok_piece {P : Program} {w : World} {K : PySem.W.Frag} {mg : Str → Option Value} {base : Heap} (T : Top K mg) {k : Nat} (G_law_take : FnOk P w K mg base CX0 1 T.a_law_take T.d_law_take ["_law_hand", "_law_many"] spTake)
    (G_law_word : FnOk P w K mg base CX0 2 T.a_law_word T.d_law_word ["_law_hand"] spWordH) : FnOk P w K mg base CX0 (k + 3) T.a_law_piece T.d_law_piece ["_law_hand"] spPiece := by
  refine T.F_law_piece.ok sc_law_piece (fun vs H Q E h => ?_) (fun cdv A outer s H vs Q E hr h => ?_)
  · obtain ⟨h, d, ds, rfl, _⟩ := h
    rfl
  obtain ⟨h, d, ds, rfl, hh, q⟩ := h
  refine ⟨_, (pss_cons (ps_set (i := 1) sc_law_piece.nd rfl (Or.inl rfl) pe_str)
    (pss_cons (ps_set (i := 2) sc_law_piece.nd rfl (Or.inl rfl) (pe_call G_law_take (hr.mono (by omega)) rfl T.m_law_take T.F_law_take.kp T.b_law_take .nil pass0 (pa_cons (pv 0) (pa_cons pe_int pa_nil))))
    (pss_cons (ps_if (pt_cmpR op_lt (pv 2) pe_int (nomark _)) (pss_one (ps_ret (pe_ix ix_list (pe_lst (pa_cons pe_str (pa_cons pe_str (pa_cons pe_str (pa_cons pe_str pa_nil))))) (pe_call G_law_take (hr.mono (by omega)) rfl T.m_law_take T.F_law_take.kp T.b_law_take .nil pass0 (pa_cons (pv 0) (pa_cons pe_int pa_nil))) (fun _ _ => rfl)))) pss_nil)
    (pss_cons (ps_if (pt_cmpR op_lt (pv 2) pe_int (nomark _)) (pss_one (ps_ret pe_str)) pss_nil)
    (pss_cons (ps_if (pt_cmpR op_lt (pv 2) pe_int (nomark _)) (pss_one (ps_ret pe_str)) pss_nil)
    (pss_cons (ps_if (pt_cmpR op_eq (pv 2) pe_int (nomark _)) (pss_one (ps_ret (pe_op op_add_str (pe_call G_law_word (hr.mono (by omega)) rfl T.m_law_word T.F_law_word.kp T.b_law_word .nil pass0 (pa_cons (pv 0) pa_nil)) (pe_slice sl_str pe_str po_none (po_some (pe_op op_add pe_int (pe_call G_law_take (hr.mono (by omega)) rfl T.m_law_take T.F_law_take.kp T.b_law_take .nil pass0 (pa_cons (pv 0) (pa_cons pe_int pa_nil))))))))) pss_nil)
    (pss_cons (ps_if (pt_cmpR op_eq (pv 2) pe_int (nomark _)) (pss_one (ps_ret (pe_op op_add_str (pe_ix ix_str pe_str (pe_call G_law_take (hr.mono (by omega)) rfl T.m_law_take T.F_law_take.kp T.b_law_take .nil pass0 (pa_cons (pv 0) (pa_cons pe_int pa_nil))) (fun _ _ => rfl)) (pe_ix ix_list (pe_lst (pa_cons pe_str (pa_cons pe_str (pa_cons pe_str pa_nil)))) (pe_call G_law_take (hr.mono (by omega)) rfl T.m_law_take T.F_law_take.kp T.b_law_take .nil pass0 (pa_cons (pv 0) (pa_cons pe_int pa_nil))) (fun _ _ => rfl))))) pss_nil)
    (pss_cons (ps_if (PW.pt (pw_and (pt_cmpR op_eq (pv 2) pe_int (nomark _)) (pw_and1 (pt_cmpR op_eq (pe_call G_law_take (hr.mono (by omega)) rfl T.m_law_take T.F_law_take.kp T.b_law_take .nil pass0 (pa_cons (pv 0) (pa_cons pe_int pa_nil))) pe_int (nomark _))))) (pss_one (ps_ret (pe_ix ix_str (pv 1) (pe_call G_law_take (hr.mono (by omega)) rfl T.m_law_take T.F_law_take.kp T.b_law_take .nil pass0 (pa_cons (pv 0) (pa_cons (pe_callB call_len_str rfl T.n_len bo_len (pa_cons (pv 1) pa_nil)) pa_nil))) (fun _ _ => rfl)))) pss_nil)
    (pss_one (ps_ret (pe_call G_law_word (hr.mono (by omega)) rfl T.m_law_word T.F_law_word.kp T.b_law_word .nil pass0 (pa_cons (pv 0) pa_nil)))))))))))), ?_⟩
  refine ⟨_, rfl, h, d, ds, 12, rfl, hh, by decide, fun r1 H1 r1a r1b k1 hh1 => ?_⟩
  refine ⟨_, rfl, _, _, rfl, rfl, _, rfl, ?_⟩
  refine ite2 (fun c => ?_) (fun c => ?_)
  · refine ⟨(show 4 ≤ sizeLine by decide), fun L nL => ?_⟩
    have hh2 := hh1.new (o := .lst [.str " ", .str "\n", .str "  ", .str "\n "]) nL
    refine ⟨_, rfl, h, d, ds, 4, rfl, hh2, by decide, fun r2 H2 r2a r2b k2 hh3 => ?_⟩
    have eL : H2 L = some (.lst [.str " ", .str "\n", .str "  ", .str "\n "]) := k2 L _ (hh1.neH nL) upd_same
    obtain ⟨x, ea, hx⟩ := atS4 r2a r2b
    exact ⟨L, _, r2, .str x, rfl, rfl, SqL.of eL, ea, q x H2 hx ((k1.new nL).trans k2) hh3⟩
  refine ⟨_, rfl, _, _, rfl, rfl, _, rfl, ?_⟩
  refine ite2 (fun c => ?_) (fun c => ?_)
  · exact q _ _ (by decide +kernel) k1 hh1
  refine ⟨_, rfl, _, _, rfl, rfl, _, rfl, ?_⟩
  refine ite2 (fun c => ?_) (fun c => ?_)
  · exact q _ _ (by decide +kernel) k1 hh1
  refine ⟨_, rfl, rfl, _, rfl, ?_⟩
  refine ite2 (fun c => ?_) (fun c => ?_)
  · refine ⟨_, rfl, h, d, ds, rfl, hh1, fun s H2 hs k2 hh2 => ?_⟩
    refine ⟨_, rfl, h, d, ds, 12, rfl, hh2, by decide, fun r3 H3 r3a r3b k3 hh3 => ?_⟩
    refine ⟨_, _, rfl, rfl, _, rfl, ("abcdefghijkl" : Str), rfl, by decide +kernel, ?_⟩
    have l1 := wok_len hs
    have l2 : (cutS "abcdefghijkl" none (some (1 + r3))).length ≤ 12 := cutS_12 (by omega) (by omega)
    refine ⟨_, _, rfl, rfl, OG.sz (by omega), q _ H3 ?_ ((k1.trans k2).trans k3) hh3⟩
    rw [← slen, app_cps, List.length_append, slen, slen]; omega
  refine ⟨_, rfl, rfl, _, rfl, ?_⟩
  refine ite2 (fun c => ?_) (fun c => ?_)
  · refine ⟨_, rfl, h, d, ds, 10, rfl, hh1, by decide, fun r2 H2 r2a r2b k2 hh2 => ?_⟩
    obtain ⟨c2, ec2, _⟩ := at_mem fig10 r2a r2b
    refine ⟨figS, r2, c2, rfl, rfl, by decide +kernel, ec2, ?_⟩
    refine ⟨(show 3 ≤ sizeLine by decide), fun L nL => ?_⟩
    have hh3 := hh2.new (o := .lst [.str "", .str "a", .str "1"]) nL
    refine ⟨_, rfl, h, d, ds, 3, rfl, hh3, by decide, fun r4 H4 r4a r4b k4 hh4 => ?_⟩
    have eL : H4 L = some (.lst [.str "", .str "a", .str "1"]) := k4 L _ (hh2.neH nL) upd_same
    obtain ⟨x, ea, hx⟩ := atS3 r4a r4b
    refine ⟨L, _, r4, .str x, rfl, rfl, SqL.of eL, ea, ?_⟩
    have l1 : (⟨#[c2]⟩ : Str).length = 1 := rfl
    refine ⟨_, _, rfl, rfl, OG.sz (by rw [l1]; omega), q _ H4 ?_ ((k1.trans (k2.new nL)).trans k4) hh4⟩
    rw [← slen, app_cps, List.length_append, slen, slen, l1]; omega
  refine ⟨_, rfl, rfl, _, rfl, ?_⟩
  have fin : ∀ H2, Kp (At h) H H2 → Hnd H2 h d ds → spWordH [.ref h] H2 (fun v H' => Q v H') E0 := fun H2 k2 hh2 => ⟨h, d, ds, rfl, hh2, fun s H3 hs k3 hh3 => q s H3 (Nat.le_trans (wok_len hs) (by decide)) (k2.trans k3) hh3⟩
  by_cases h10 : r1 = 10
  · rw [decide_eq_true (show V.int r1 = V.int 10 by rw [h10])]
    refine ⟨_, rfl, h, d, ds, 3, rfl, hh1, by decide, fun r2 H2 r2a r2b k2 hh2 => ?_⟩
    refine ⟨rfl, _, rfl, ?_⟩
    refine ite2 (fun c => ?_) (fun c => ?_)
    · refine ⟨_, rfl, _, rfl, _, rfl, strg, rfl, by decide +kernel, h, d, ds, 33, rfl, hh2, by decide, fun r3 H3 r3a r3b k3 hh3 => ?_⟩
      obtain ⟨c2, ec2, _⟩ := at_mem strg_len r3a r3b
      exact ⟨strg, r3, c2, rfl, rfl, by decide +kernel, ec2, q _ H3 (show 1 ≤ 24 by decide) ((k1.trans k2).trans k3) hh3⟩
    · exact ⟨_, rfl, fin H2 (k1.trans k2) hh2⟩
  · rw [decide_eq_false (show ¬ V.int r1 = V.int 10 by intro e; injection e with e; exact h10 e)]
    exact ⟨_, rfl, fin H1 k1 hh1⟩

/-! ### _law_spoilt -/
def spSpoilt : Sp := fun vs H Q _ => ∃ (h d : Addr) (ds : List Int) (z : Str), vs = [.ref h, .str z] ∧ Hnd H h d ds ∧ z.length ≤ 400000 ∧
  ∀ (s : Str) (H' : Hp), s.length ≤ 2 * z.length + 24 → Kp (At h) H H' → Hnd H' h d ds → Q (.str s) H'
theorem add_len (s t : Str) : (s ++ t).length = s.length + t.length := by rw [← slen, app_cps, List.length_append, slen, slen]
theorem ok_spoilt {P : Program} {w : World} {K : PySem.W.Frag} {mg : Str → Option Value} {base : Heap} (T : Top K mg) {k : Nat} (G_law_take : FnOk P w K mg base CX0 1 T.a_law_take T.d_law_take ["_law_hand", "_law_many"] spTake)
    (G_law_piece : FnOk P w K mg base CX0 3 T.a_law_piece T.d_law_piece ["_law_hand"] spPiece) : FnOk P w K mg base CX0 (k + 4) T.a_law_spoilt T.d_law_spoilt ["_law_hand", "_law_text_here"] spSpoilt := by
  refine T.F_law_spoilt.ok sc_law_spoilt (fun vs H Q E h => ?_) (fun cdv A outer s H vs Q E hr h => ?_)
  · obtain ⟨h, d, ds, z, rfl, _⟩ := h
    rfl
  obtain ⟨h, d, ds, z, rfl, hh, hz, q⟩ := h
  have hzl : z.length ≤ sizeLine := Nat.le_trans hz (by decide)
  have cl : ∀ a b, (cutS z a b).length ≤ z.length := fun a b => L2.cutS_length z a b
  refine ⟨_, (pss_cons (ps_set (i := 2) sc_law_spoilt.nd rfl (Or.inl rfl) (pe_call G_law_take (hr.mono (by omega)) rfl T.m_law_take T.F_law_take.kp T.b_law_take .nil pass0 (pa_cons (pv 0) (pa_cons (pe_op op_add (pe_callB call_len_str rfl T.n_len bo_len (pa_cons (pv 1) pa_nil)) pe_int) pa_nil))))
    (pss_cons (ps_set (i := 3) sc_law_spoilt.nd rfl (Or.inl rfl) (pe_call G_law_take (hr.mono (by omega)) rfl T.m_law_take T.F_law_take.kp T.b_law_take .nil pass0 (pa_cons (pv 0) (pa_cons pe_int pa_nil))))
    (pss_cons (ps_if (pt_cmpR op_eq (pv 3) pe_int (nomark _)) (pss_one (ps_ret (pe_op op_add_str (pe_slice sl_str (pv 1) po_none (po_some (pv 2))) (pe_slice sl_str (pv 1) (po_some (pe_op op_add (pv 2) pe_int)) po_none)))) pss_nil)
    (pss_cons (ps_if (pt_cmpR op_eq (pv 3) pe_int (nomark _)) (pss_one (ps_ret (pe_op op_add_str (pe_op op_add_str (pe_slice sl_str (pv 1) po_none (po_some (pv 2))) (pe_call G_law_piece (hr.mono (by omega)) rfl T.m_law_piece T.F_law_piece.kp T.b_law_piece .nil pass0 (pa_cons (pv 0) pa_nil))) (pe_slice sl_str (pv 1) (po_some (pv 2)) po_none)))) pss_nil)
    (pss_cons (ps_if (pt_cmpR op_eq (pv 3) pe_int (nomark _)) (pss_one (ps_ret (pe_op op_add_str (pe_op op_add_str (pe_slice sl_str (pv 1) po_none (po_some (pv 2))) (pe_call G_law_piece (hr.mono (by omega)) rfl T.m_law_piece T.F_law_piece.kp T.b_law_piece .nil pass0 (pa_cons (pv 0) pa_nil))) (pe_slice sl_str (pv 1) (po_some (pe_op op_add (pv 2) pe_int)) po_none)))) pss_nil)
    (pss_one (ps_ret (pe_slice sl_str (pv 1) po_none (po_some (pv 2)))))))))), ?_⟩
  refine ⟨_, rfl, _, rfl, z, rfl, hzl, _, _, rfl, rfl, h, d, ds, (z.length : Int) + 1, rfl, hh, by omega, fun r1 H1 r1a r1b k1 hh1 => ?_⟩
  refine ⟨_, rfl, h, d, ds, 4, rfl, hh1, by decide, fun r2 H2 r2a r2b k2 hh2 => ?_⟩
  have kk := k1.trans k2
  refine ⟨_, rfl, rfl, _, rfl, ?_⟩
  refine ite2 (fun c => ?_) (fun c => ?_)
  · refine ⟨_, rfl, _, rfl, _, rfl, z, rfl, hzl, _, rfl, _, rfl, _, _, rfl, rfl, _, rfl, z, rfl, hzl, ?_⟩
    refine ⟨_, _, rfl, rfl, ?_, q _ H2 ?_ kk hh2⟩
    · have := cl none (some r1); have := cl (some (r1 + 1)) none; exact OG.sz (by omega)
    · rw [add_len]; have := cl none (some r1); have := cl (some (r1 + 1)) none; omega
  refine ⟨_, rfl, rfl, _, rfl, ?_⟩
  refine ite2 (fun c => ?_) (fun c => ?_)
  · refine ⟨_, rfl, _, rfl, _, rfl, z, rfl, hzl, ?_⟩
    refine ⟨_, rfl, h, d, ds, rfl, hh2, fun s H3 hs k3 hh3 => ?_⟩
    have l0 := cl none (some r1)
    refine ⟨_, _, rfl, rfl, OG.sz (by omega), ?_⟩
    refine ⟨_, rfl, _, rfl, _, rfl, z, rfl, hzl, ?_⟩
    have l1 := cl (some r1) none
    refine ⟨_, _, rfl, rfl, OG.sz (by rw [add_len]; omega), q _ H3 (by rw [add_len, add_len]; omega) (kk.trans k3) hh3⟩
  refine ⟨_, rfl, rfl, _, rfl, ?_⟩
  refine ite2 (fun c => ?_) (fun c => ?_)
  · refine ⟨_, rfl, _, rfl, _, rfl, z, rfl, hzl, ?_⟩
    refine ⟨_, rfl, h, d, ds, rfl, hh2, fun s H3 hs k3 hh3 => ?_⟩
    have l0 := cl none (some r1)
    refine ⟨_, _, rfl, rfl, OG.sz (by omega), ?_⟩
    refine ⟨_, rfl, _, rfl, _, _, rfl, rfl, _, rfl, z, rfl, hzl, ?_⟩
    have l1 := cl (some (r1 + 1)) none
    refine ⟨_, _, rfl, rfl, OG.sz (by rw [add_len]; omega), q _ H3 (by rw [add_len, add_len]; omega) (kk.trans k3) hh3⟩
  refine ⟨_, rfl, _, rfl, _, rfl, z, rfl, hzl, q _ H2 ?_ kk hh2⟩
  have := cl none (some r1); omega

/-! ### _law_like -/
def psz (ps : List (Tr × Tr)) : Nat := Tr.sizes (ps.map (·.2))
theorem psz_append (a b : List (Tr × Tr)) : psz (a ++ b) = psz a + psz b := by simp [psz, Tr.sizes_append]
theorem psz_len (ps : List (Tr × Tr)) : ps.length ≤ psz ps := by
  have := Tr.length_le_sizes (ps.map (·.2))
  rw [List.length_map] at this; exact this
def prel (K : PySem.W.Frag) (H : Hp) (p : Tr × Tr) (v : V) : Prop := ∃ e x y, v = .ref e ∧ SqT K H e [x, y] ∧ IsT K H p.1 x ∧ IsT K H p.2 y
theorem prel_tk {K : PySem.W.Frag} {H H' : Hp} (k : TK K H H') {p : Tr × Tr} {v : V} : prel K H p v → prel K H' p v := fun ⟨e, x, y, h1, h2, h3, h4⟩ => ⟨e, x, y, h1, k _ _ h2, h3.tk k, h4.tk k⟩
def spLike (K : PySem.W.Frag) : Sp := fun vs H Q _ => ∃ (t1 t2 : Tr) (v1 v2 : V), vs = [v1, v2] ∧ IsT K H t1 v1 ∧ IsT K H t2 v2 ∧ t2.size ≤ 399999 ∧ ∀ H', Same H H' → Q (.bl (decide (t1 = t2))) H'
theorem zip_take {α β : Type} : ∀ {as : List α} {bs : List β} {j : Nat} {a : α} {b : β}, as[j]? = some a → bs[j]? = some b → (as.zip bs).take (j + 1) = (as.zip bs).take j ++ [(a, b)]
  | [], _, _, _, _, h, _ => by simp at h
  | _ :: _, [], _, _, _, _, h => by simp at h
  | x :: as, y :: bs, 0, a, b, h1, h2 => by simp at h1 h2; subst h1 h2; simp
  | x :: as, y :: bs, j + 1, a, b, h1, h2 => by
    have ih := zip_take (as := as) (bs := bs) (j := j) (a := a) (b := b) (by simpa using h1) (by simpa using h2)
    simp [List.zip_cons_cons, ih]
theorem zip_all {as bs : List Tr} (h : as.length = bs.length) : (∀ p ∈ as.zip bs, p.1 = p.2) ↔ as = bs := by
  induction as generalizing bs with
  | nil => cases bs with
    | nil => simp
    | cons b bs => simp at h
  | cons a as ih => cases bs with
    | nil => simp at h
    | cons b bs =>
      have ih' := ih (bs := bs) (by simpa using h)
      rw [List.zip_cons_cons]
      constructor
      · intro g
        have h1 := g (a, b) List.mem_cons_self
        have h2 := ih'.mp fun p hp => g p (List.mem_cons_of_mem _ hp)
        simp at h1
        rw [h1, h2]
      · intro g
        injection g with g1 g2
        subst g1 g2
        intro p hp
        rcases List.mem_cons.mp hp with e | e
        · rw [e]
        · exact ih'.mpr rfl p e
theorem psz_zip {as bs : List Tr} (h : as.length = bs.length) : psz (as.zip bs) = Tr.sizes bs := by
  unfold psz
  rw [show (as.zip bs).map (·.2) = bs by
    have := List.map_snd_zip (l₁ := as) (l₂ := bs) (by omega)
    exact this]
theorem psz_take (ps : List (Tr × Tr)) (j : Nat) : psz (ps.take j) ≤ psz ps := by
  conv => rhs; rw [← List.take_append_drop j ps]
  rw [psz_append]; omega
theorem ok_like {P : Program} {w : World} {K : PySem.W.Frag} {mg : Str → Option Value} {base : Heap} (T : Top K mg) {k : Nat} : FnOk P w K mg base CX0 (k + 1) T.a_law_like T.d_law_like ["_law_found", "_law_expected"] (spLike K) := by
  refine T.F_law_like.ok sc_law_like (fun vs H Q E h => ?_) (fun cdv A outer s H vs Q E hr h => ?_)
  · obtain ⟨t1, t2, v1, v2, rfl, _⟩ := h
    rfl
  obtain ⟨t1, t2, v1, v2, rfl, h1, h2, hsz, q⟩ := h
  refine ⟨_, (pss_cons (ps_set (i := 2) sc_law_like.nd rfl (Or.inl rfl) (pe_lst (pa_cons (pe_tup (pa_cons (pv 0) (pa_cons (pv 1) pa_nil))) pa_nil)))
    (pss_cons (ps_for PassesOwn.never rfl (pi_range1 rfl T.n_range (pa_cons pe_int pa_nil)) (pg_name (i := 3) sc_law_like.nd rfl (Or.inl rfl)) (pss_cons (ps_if (pt_cmpR op_eq (pe_callB call_len_seq rfl T.n_len bo_len (pa_cons (pv 2) pa_nil)) pe_int (nomark _)) (pss_one (ps_ret pe_bl)) pss_nil)
    (pss_cons (ps_asg (pe_bm0 PySem.F.plainAttrs_list PySem.F.slot_list_pop PySem.F.type_list_pop mt_pop (pv 2)) (pg_tup (by rfl) (pgs_cons (pg_name (i := 5) sc_law_like.nd rfl (Or.inl rfl)) (pgs_cons (pg_name (i := 6) sc_law_like.nd rfl (Or.inl rfl)) pgs_nil))))
    (pss_cons (ps_if (pt_val (pe_callB call_isi rfl T.n_isinstance bo_isinstance (pa_cons (pv 6) (pa_cons (pe_bltn (v := .ty "str") rfl T.n_str bo_str rfl) pa_nil)))) (pss_cons (ps_if (PW.pt (pw_or (pt_not (pt_val (pe_callB call_isi rfl T.n_isinstance bo_isinstance (pa_cons (pv 5) (pa_cons (pe_bltn (v := .ty "str") rfl T.n_str bo_str rfl) pa_nil))))) (pw_or1 (pt_cmpR op_ne (pv 5) (pv 6) (nomark _))))) (pss_one (ps_ret pe_bl)) pss_nil)
    (pss_one ps_continue)) pss_nil)
    (pss_cons (ps_if (PW.pt (pw_or (pt_not (pt_val (pe_callB call_isi rfl T.n_isinstance bo_isinstance (pa_cons (pv 5) (pa_cons (pe_bltn (v := .ty "tuple") rfl T.n_tuple bo_tuple rfl) pa_nil))))) (pw_or1 (pt_cmpR op_ne (pe_callB call_len_seq rfl T.n_len bo_len (pa_cons (pv 5) pa_nil)) (pe_callB call_len_seq rfl T.n_len bo_len (pa_cons (pv 6) pa_nil)) (nomark _))))) (pss_one (ps_ret pe_bl)) pss_nil)
    (pss_one (ps_for PassesOwn.never rfl (pi_range1 rfl T.n_range (pa_cons (pe_callB call_len_seq rfl T.n_len bo_len (pa_cons (pv 6) pa_nil)) pa_nil)) (pg_name (i := 4) sc_law_like.nd rfl (Or.inl rfl)) (pss_one (ps_expr (pe_bm PySem.F.plainAttrs_list PySem.F.slot_list_append PySem.F.type_list_append mt_append (pv 2) (pa_cons (pe_tup (pa_cons (pe_ix ix_tup (pv 5) (pv 4) (fun _ _ => rfl)) (pa_cons (pe_ix ix_tup (pv 6) (pv 4) (fun _ _ => rfl)) pa_nil))) pa_nil)))))))))))
    (pss_one (ps_ret pe_bl)))), ?_⟩
  refine ⟨_, rfl, _, rfl, by show 2 ≤ sizeLine; decide, fun e0 ne0 => ⟨by show 1 ≤ sizeLine; decide, fun L nL => ?_⟩⟩
  have k0 : Same H (upd (upd H e0 (.tup [v1, v2])) L (.lst [.ref e0])) := (same_new ne0).trans (same_new nL)
  have hL : H L = none := (same_new (H := H) ne0 (o := .tup [v1, v2])).free nL
  have he0 : (upd (upd H e0 (.tup [v1, v2])) L (.lst [.ref e0])) e0 = some (.tup [v1, v2]) := by rw [upd_ne (ne_of_none upd_same nL), upd_same]
  refine ⟨400000, rfl, by decide, by decide, ?_⟩
  refine for_range (lo := 0) (n := (400000 : Int).toNat) (fun i σ H' => ∃ (ps : List (Tr × Tr)) (vs : List V) (y3 y4 y5 y6 : Option V), σ = [some v1, some v2, some (.ref L), y3, y4, y5, y6] ∧ Same H H' ∧ H' L = some (.lst vs) ∧ Paired (prel K H') ps vs ∧
    (t1 = t2 ↔ ∀ p ∈ ps, p.1 = p.2) ∧ i + psz ps ≤ t2.size)
    ⟨[(t1, t2)], [.ref e0], _, _, _, _, rfl, k0, upd_same, .cons ⟨e0, v1, v2, rfl, SqT.of he0, h1.tk (TK.same k0), h2.tk (TK.same k0)⟩ .nil, by simp, by simp [psz, Tr.sizes]⟩ (fun i σ H1 hi hP => ?_) (fun σ H1 hP => ?_)
  · obtain ⟨ps, vs, y3, y4, y5, y6, rfl, s1, eL, pr, hiff, hb⟩ := hP
    have lp := paired_len pr
    have lpz := psz_len ps
    refine ⟨_, rfl, L, _, rfl, .inl (SqL.of eL), rfl, _, rfl, ?_⟩
    by_cases hvs : vs.length = 0
    · rw [decide_eq_true (show V.int ((vs.length : Nat) : Int) = V.int 0 by rw [hvs]; rfl)]
      have eps : ps = [] := List.eq_nil_of_length_eq_zero (by rw [lp, hvs])
      subst eps
      have e : t1 = t2 := hiff.mpr fun p hp => absurd hp List.not_mem_nil
      have q' := q H1 s1
      rw [decide_eq_true e] at q'
      exact q'
    rw [decide_eq_false (show ¬ V.int ((vs.length : Nat) : Int) = V.int 0 by intro e; injection e with e; omega)]
    obtain ⟨ps', pl, vs', vl, rfl, rfl, pr', e, x, y, rfl, hel, hx, hy⟩ := paired_last pr (by omega)
    refine ⟨_, rfl, .inl ⟨rfl, _, SqL.of eL⟩, L, _, .ref e, rfl, rfl, eL, last_of _ _, ?_⟩
    rw [List.dropLast_concat]
    have t1k : TK K H1 (upd H1 L (.lst vs')) := TK.put (mut_lst eL)
    have s2 : Same H (upd H1 L (.lst vs')) := fun b o e => by rw [upd_ne (ne_of_none e hL)]; exact s1 b o e
    have eL2 : (upd H1 L (.lst vs')) L = some (.lst vs') := upd_same
    have pr2 := paired_mono (fun _ _ => prel_tk t1k) pr'
    have hel2 := t1k _ _ hel
    have hx2 := hx.tk t1k
    have hy2 := hy.tk t1k
    generalize (upd H1 L (.lst vs')) = H2 at s2 eL2 pr2 hel2 hx2 hy2 ⊢
    refine ⟨e, _, rfl, hel2, rfl, _, _, rfl, _, _, rfl, rfl, ?_⟩
    have no : pl.1 ≠ pl.2 → Q (.bl false) H2 := fun ne => by
      have e : ¬ t1 = t2 := fun g => ne (hiff.mp g pl (by simp))
      have q' := q H2 s2
      rw [decide_eq_false e] at q'
      exact q'
    rw [psz_append] at hb
    obtain ⟨a, b⟩ := pl
    cases b with
    | w s2' =>
      obtain rfl := isT_w.mp hy2
      refine ⟨_, rfl, _, _, _, _, true, rfl, .ty "str", tyX_str, kty k_ss, true, rfl, ?_⟩
      cases a with
      | l as =>
        obtain ⟨xa, xs, rfl, hxs, _⟩ := isT_l.mp hx2
        refine ⟨_, rfl, _, _, _, _, false, rfl, .ty "str", tyX_tup hxs, kty k_ts, false, rfl, ?_⟩
        exact no (fun g => by cases g)
      | w s1' =>
        obtain rfl := isT_w.mp hx2
        refine ⟨_, rfl, _, _, _, _, true, rfl, .ty "str", tyX_str, kty k_ss, true, rfl, ?_⟩
        refine ⟨_, rfl, _, rfl, rfl, _, rfl, ?_⟩
        by_cases es : s1' = s2'
        · subst es
          rw [decide_eq_true rfl]
          refine ⟨ps', vs', _, _, _, _, rfl, s2, eL2, pr2, ?_, ?_⟩
          · rw [hiff]
            constructor
            · intro g p hp; exact g p (List.mem_append_left _ hp)
            · intro g p hp
              rcases List.mem_append.mp hp with z | z
              · exact g p z
              · rw [List.mem_singleton.mp z]
          · have : psz [(Tr.w s1', Tr.w s1')] = 1 := rfl
            omega
        · rw [decide_eq_false (show ¬ V.str s1' = V.str s2' by intro g; injection g with g; exact es g)]
          exact no (fun g => by injection g with g; exact es g)
    | l bs =>
      obtain ⟨ya, ys, rfl, hys, hbs⟩ := isT_l.mp hy2
      refine ⟨_, rfl, _, _, _, _, false, rfl, .ty "str", tyX_tup hys, kty k_ts, false, rfl, ?_⟩
      cases a with
      | w s1' =>
        obtain rfl := isT_w.mp hx2
        refine ⟨_, rfl, _, _, _, _, false, rfl, .ty "tuple", tyX_str, kty k_st, false, rfl, ?_⟩
        exact no (fun g => by cases g)
      | l as =>
        obtain ⟨xa, xs, rfl, hxs, has⟩ := isT_l.mp hx2
        refine ⟨_, rfl, _, _, _, _, true, rfl, .ty "tuple", tyX_tup hxs, kty k_tt, true, rfl, ?_⟩
        refine ⟨_, rfl, xa, xs, rfl, .inr hxs, _, rfl, ya, ys, rfl, .inr hys, rfl, _, rfl, ?_⟩
        have la := has.length
        have lb := hbs.length
        by_cases el : as.length = bs.length
        · rw [decide_eq_true (show V.int ((xs.length : Nat) : Int) = V.int ((ys.length : Nat) : Int) by rw [la, lb, el])]
          have esz : psz [(Tr.l as, Tr.l bs)] = Tr.sizes bs + 1 := rfl
          rw [esz] at hb
          refine ⟨_, rfl, ya, ys, rfl, .inr hys, _, rfl, by omega, ?_, ?_⟩
          · have := Tr.length_le_sizes bs; omega
          have ey : (((ys.length : Nat) : Int)).toNat = ys.length := by omega
          rw [ey]
          refine for_range (lo := 0) (n := ys.length) (fun j σ H' => ∃ (vs : List V) (y4 : Option V), σ = [some v1, some v2, some (.ref L), some (.int (0 + (i : Int))), y4, some (.ref xa), some (.ref ya)] ∧ Same H H' ∧ TK K H2 H' ∧ H' L = some (.lst vs) ∧ Paired (prel K H') (ps' ++ (as.zip bs).take j) vs)
            ⟨vs', _, rfl, s2, TK.refl, eL2, by simpa using pr2⟩ (fun j σ H3 hj hP => ?_) (fun σ H3 hP => ?_)
          · obtain ⟨vs3, y4, rfl, s3, t3, eL3, pr3⟩ := hP
            have hja : j < as.length := by omega
            have hjb : j < bs.length := by omega
            obtain ⟨u, gu, hu⟩ := (has.tk t3).get (List.getElem?_eq_getElem hja)
            obtain ⟨u', gu', hu'⟩ := (hbs.tk t3).get (List.getElem?_eq_getElem hjb)
            have ej : (0 : Int) + (j : Int) = (j : Int) := by omega
            have l3 : vs3.length ≤ 400000 := by
              rw [← paired_len pr3]
              have a1 := psz_len (ps' ++ (as.zip bs).take j)
              have a2 := psz_take (as.zip bs) j
              rw [psz_append] at a1
              rw [psz_zip el] at a2
              omega
            rw [ej]
            refine ⟨_, rfl, .inl ⟨rfl, _, SqL.of eL3⟩, _, rfl, _, rfl, xa, xs, (j : Int), u, rfl, rfl, t3 _ _ hxs, atI_nat gu, _, rfl, _, rfl, ya, ys, (j : Int), u', rfl, rfl, t3 _ _ hys, atI_nat gu', by show 2 ≤ sizeLine; decide, fun e3 ne3 => ?_⟩
            have eL4 : (upd H3 e3 (.tup [u, u'])) L = some (.lst vs3) := by rw [upd_ne (ne_of_none eL3 ne3)]; exact eL3
            refine ⟨L, _, _, rfl, rfl, eL4, szl (by omega), ?_⟩
            have t4 : TK K H3 (upd (upd H3 e3 (.tup [u, u'])) L (.lst (vs3 ++ [.ref e3]))) := (TK.new ne3).trans (TK.put (mut_lst eL4))
            have he3 : (upd (upd H3 e3 (.tup [u, u'])) L (.lst (vs3 ++ [.ref e3]))) e3 = some (.tup [u, u']) := by rw [upd_ne (ne_of_none eL3 ne3).symm, upd_same]
            refine ⟨_, _, rfl, fun b o e => by rw [upd_ne (ne_of_none e hL)]; exact (s3.trans (same_new ne3)) b o e, t3.trans t4, upd_same, ?_⟩
            rw [zip_take (List.getElem?_eq_getElem hja) (List.getElem?_eq_getElem hjb), ← List.append_assoc]
            exact paired_snoc (paired_mono (fun _ _ => prel_tk t4) pr3) ⟨e3, u, u', rfl, SqT.of he3, hu.tk t4, hu'.tk t4⟩
          · obtain ⟨vs3, y4, rfl, s3, t3, eL3, pr3⟩ := hP
            have full : (as.zip bs).take ys.length = as.zip bs := List.take_of_length_le (by rw [List.length_zip]; omega)
            rw [full] at pr3
            refine ⟨_, vs3, _, _, _, _, rfl, s3, eL3, pr3, ?_, ?_⟩
            · rw [hiff]
              constructor
              · intro g p hp
                rcases List.mem_append.mp hp with z | z
                · exact g p (List.mem_append_left _ z)
                · have := g (.l as, .l bs) (by simp)
                  simp at this
                  exact (zip_all el).mpr this p z
              · intro g p hp
                rcases List.mem_append.mp hp with z | z
                · exact g p (List.mem_append_left _ z)
                · rw [List.mem_singleton.mp z]
                  have := (zip_all el).mp fun p hp => g p (List.mem_append_right _ hp)
                  rw [this]
            · rw [psz_append, psz_zip el]; omega
        · rw [decide_eq_false (show ¬ V.int ((xs.length : Nat) : Int) = V.int ((ys.length : Nat) : Int) by rw [la, lb]; intro g; injection g with g; omega)]
          exact no (fun g => by injection g with g; exact el (by rw [g]))
  · obtain ⟨ps, vs, y3, y4, y5, y6, rfl, s1, eL, pr, hiff, hb⟩ := hP
    exfalso
    have : (400000 : Int).toNat = 400000 := rfl
    omega

/-! ### what is read has no more parts than the text has signs -/
theorem skip_len (l : List Nat) : (skip l).length ≤ l.length := by
  unfold skip
  exact List.Sublist.length_le (List.dropWhile_sublist _)
def szs (st : List (List Tr)) : Nat := (st.map Tr.sizes).sum + st.length
theorem sizes_app (xs ys : List Tr) : Tr.sizes (xs ++ ys) = Tr.sizes xs + Tr.sizes ys := Tr.sizes_append xs ys
theorem word_len {c : Nat} {r : List Nat} (h : low c = true) : (skip ((c :: r).dropWhile alnum)).length + 1 ≤ (c :: r).length := by
  have h1 := skip_len ((c :: r).dropWhile alnum)
  have h2 : alnum c = true := by
    unfold low at h
    unfold alnum
    rw [decide_eq_true_eq] at h ⊢
    rw [app_cps]
    exact List.mem_append_left _ h
  rw [List.dropWhile_cons_of_pos h2] at h1 ⊢
  have h3 : (r.dropWhile alnum).length ≤ r.length := List.Sublist.length_le (List.dropWhile_sublist _)
  rw [List.length_cons]; omega
theorem rd_size (N : Nat) : ∀ (n : Nat) (st : List (List Tr)) (l : List Nat) (t : Tr), rd N n st l = .ok t → t.size ≤ szs st + l.length
  | 0, st, l, t, h => by unfold rd at h; cases h
  | n + 1, st, [], t, h => by
    unfold rd at h
    split at h
    · cases h; simp only [szs, List.map_cons, List.map_nil, List.sum_cons, Tr.sizes]; omega
    · cases h
  | n + 1, st, c :: r, t, h => by
    unfold rd at h
    have hsk := skip_len r
    split at h
    · cases h
    split at h
    · have := rd_size N n _ _ t h
      simp only [szs, List.map_cons, List.sum_cons, Tr.sizes, List.length_cons] at this ⊢
      omega
    split at h
    · split at h
      · have := rd_size N n _ _ t h
        simp only [szs, List.map_cons, List.sum_cons, Tr.sizes, List.length_cons, sizes_app, Tr.size] at this ⊢
        omega
      split at h
      · rename_i hl
        split at h
        · have := rd_size N n _ _ t h
          have hw := word_len (r := r) hl
          simp only [szs, List.map_cons, List.sum_cons, Tr.sizes, List.length_cons, sizes_app, Tr.size] at this hw ⊢
          omega
        · cases h
      · cases h
    · split at h
      · rename_i hl
        split at h
        · have := rd_size N n _ _ t h
          have hw := word_len (r := r) hl
          simp only [szs, List.map_cons, List.sum_cons, Tr.sizes, List.length_cons, sizes_app, Tr.size] at this hw ⊢
          omega
        · cases h
      · cases h
    · cases h
/-! ### _law_is_right -/
theorem k_ii : kitB "int" "int" = some true := by decide +kernel
theorem tyX_int {K : PySem.W.Frag} {H : Hp} {i : Int} : TyX K H (.int i) (.type "int") := .base (.int i)
theorem k_ib : kitB "int" "bool" = some false := by decide +kernel
theorem ix_listK {X : Cx} {K : PySem.W.Frag} (h : X.K = K) : IxR X (rIxL K) := h ▸ ix_list
theorem op_eqDK {X : Cx} {K : PySem.W.Frag} (h : X.K = K) (hu : X.A.units + 64 < cLine) : OpR X (compareOp .Eq) (rEqD K) := h ▸ op_eqD hu
theorem call_isiK {X : Cx} {K : PySem.W.Frag} (h : X.K = K) : CallR X (.builtin "isinstance") (rIsi K) := h ▸ call_isi
def spIs : Sp := fun vs H Q _ => ∃ z : Str, vs = [.str z] ∧ z.length ≤ 390000 ∧ ∀ H' : Hp, Same H H' → Q (.bl true) H'
theorem ok_is_right {P : Program} {w : World} {K : PySem.W.Frag} {mg : Str → Option Value} {base : Heap} (T : Top K mg) {k : Nat} (G_law_read : FnOk P w K mg base CX0 2 T.a_law_read T.d_law_read ["_law_text_here"] (spRead K))
    (G_read_value : FnOk P w K mg base (L2.CX P w) 4 T.a_read_value T.d_read_value ["text"] (spReadX K T.C_BadText)) (G_law_like : FnOk P w K mg base CX0 1 T.a_law_like T.d_law_like ["_law_found", "_law_expected"] (spLike K)) :
    FnOk P w K mg base CX0 (k + 5) T.a_law_is_right T.d_law_is_right ["_law_text_here"] spIs := by
  refine T.F_law_is_right.ok sc_law_is_right (fun vs H Q E h => ?_) (fun cdv A outer s H vs Q E hr h => ?_)
  · obtain ⟨z, rfl, _⟩ := h
    rfl
  obtain ⟨z, rfl, hz, q⟩ := h
  refine ⟨_, (pss_cons (ps_set (i := 1) sc_law_is_right.nd rfl (Or.inl rfl) (pe_call G_law_read (hr.mono (by omega)) rfl T.m_law_read T.F_law_read.kp T.b_law_read .nil pass0 (pa_cons (pv 0) pa_nil)))
    (pss_cons (ps_try_as (i := 2) rfl rfl sc_law_is_right.nd rfl rfl ⟨rfl, by decide, Or.inl T.x_BadText.gC⟩ takes0 (fun W pn xe tk _ => (pss_one (ps_set (i := 3) sc_law_is_right.nd rfl (Or.inl rfl) (pe_callS G_read_value (hr.mono (by omega)) rfl T.m_read_value T.F_read_value.kp T.b_read_value (fun σ => passAt tk σ) (pa_cons (pv 0) pa_nil))))) (fun a oe cls d pn hz hf => (pss_cons (ps_if (PW.pt (pw_or (pt_not (pt_val (pe_callB (call_isD T.ec_BadText hz hf) rfl T.n_isinstance bo_isinstance (pa_cons (pv 2) (pa_cons (pe_glob (v := .ref T.C_GlassError) rfl T.gn_GlassError rfl) pa_nil))))) (pw_or (pt_not (pt_val (pe_callB (call_isD T.ec_BadText hz hf) rfl T.n_isinstance bo_isinstance (pa_cons (pv 2) (pa_cons (pe_bltn (v := .ty "ValueError") rfl T.n_ValueError bo_ValueError rfl) pa_nil))))) (pw_or1 (pt_val (pe_callB (call_isD T.ec_BadText hz hf) rfl T.n_isinstance bo_isinstance (pa_cons (pv 2) (pa_cons (pe_glob (v := .ref T.C_BadProgram) rfl T.gn_BadProgram rfl) pa_nil)))))))) (pss_one (ps_ret pe_bl)) pss_nil)
    (pss_one (ps_ret (pe_and (pe_cmpR (op_eqDK (K := K) rfl hr.units) (pe_ix (ix_listK (K := K) rfl) (pv 1) pe_int (fun _ _ => rfl)) pe_str (nomark _)) (pe_and (pe_callB (call_isiK (K := K) rfl) rfl T.n_isinstance bo_isinstance (pa_cons (pe_byBadText T.x_BadText hz hf (pv 2)) (pa_cons (pe_bltn (v := .ty "int") rfl T.n_int bo_int rfl) pa_nil))) (pe_and (pe_not (pe_callB (call_isiK (K := K) rfl) rfl T.n_isinstance bo_isinstance (pa_cons (pe_byBadText T.x_BadText hz hf (pv 2)) (pa_cons (pe_bltn (v := .ty "bool") rfl T.n_bool bo_bool rfl) pa_nil)))) (pe_one (pe_cmpR (op_eqDK (K := K) rfl hr.units) (pe_byBadText T.x_BadText hz hf (pv 2)) (pe_ix (ix_listK (K := K) rfl) (pv 1) pe_int (fun _ _ => rfl)) (nomark _)))))))))))
    (pss_one (ps_ret (pe_and (pe_cmpR (op_eqD hr.units) (pe_ix ix_list (pv 1) pe_int (fun _ _ => rfl)) pe_str (nomark _)) (pe_one (pe_call G_law_like (hr.mono (by omega)) rfl T.m_law_like T.F_law_like.kp T.b_law_like .nil pass0 (pa_cons (pv 3) (pa_cons (pe_ix ix_list (pv 1) pe_int (fun _ _ => rfl)) pa_nil))))))))), ?_⟩
  cases hR : rd z.length (z.length + 1) [[]] (skip z.cps.toList) with
  | ok t =>
    have hsz : t.size ≤ 390001 := by
      have := rd_size _ _ _ _ _ hR
      have h2 := skip_len z.cps.toList
      rw [slen] at h2
      simp only [szs, List.map_cons, List.map_nil, List.sum_cons, Tr.sizes, List.length_cons, List.length_nil, List.sum_nil] at this
      omega
    refine ⟨_, rfl, z, .ok t, rfl, by omega, hR, fun t' et H1 l v s1 nl el hv => ?_, fun p e => nomatch e⟩
    cases et
    refine ⟨_, rfl, z, .ok t, rfl, by omega, hR, fun t' et H2 v2 s2 hv2 => ?_, fun p e => nomatch e⟩
    cases et
    have el2 : H2 l = some (.lst [.str "good", v]) := s2 _ _ el
    have shs : SeqAt.shaped (PyData.str "good") = true := by decide +kernel
    have eg : PyData.eqv (.str "good") (.str "good") = true := by simp [PyData.eqv]
    refine ⟨_, rfl, l, _, _, _, rfl, rfl, SqL.of el2, rfl, _, _, Dp.str _, Dp.str _, shs, shs, _, rfl, ?_⟩
    rw [eg]
    refine ⟨_, rfl, _, rfl, l, _, _, _, rfl, rfl, SqL.of el2, rfl, t, t, v2, v, rfl, hv2, hv.tk (TK.same s2), by omega, fun H3 s3 => ?_⟩
    rw [decide_eq_true rfl]
    exact q H3 ((s1.trans s2).trans s3)
  | error p =>
    refine ⟨_, rfl, z, .error p, rfl, by omega, hR, fun t' et => (nomatch et), fun p' ep H1 l s1 nl el => ?_⟩
    cases ep
    refine ⟨_, rfl, z, .error p, rfl, by omega, hR, fun t' et => (nomatch et), fun p' ep H2 s2 d nd => ?_⟩
    cases ep
    refine ⟨true, T.em_BadText_BadText, fun _ a na => ?_, fun h => nomatch h⟩
    refine ⟨_, rfl, d, _, rfl, rfl, upd_same, _, _, true, rfl, fun u r => r, T.ki_BadText_GlassError, _, rfl, ?_⟩
    refine ⟨_, rfl, d, _, rfl, rfl, upd_same, _, _, true, rfl, fun u r => r, T.ki_BadText_ValueError, _, rfl, ?_⟩
    refine ⟨_, rfl, d, _, rfl, rfl, upd_same, _, _, false, rfl, fun u r => r, T.ki_BadText_BadProgram, _, rfl, ?_⟩
    have el2 : (upd H2 d (.xd [("place", .int (p : Int))])) l = some (.lst [.str "bad", .int (p : Int)]) := by
      rw [upd_ne (ne_of_none (s2 _ _ el) nd)]; exact s2 _ _ el
    have eg : PyData.eqv (.str "bad") (.str "bad") = true := by simp [PyData.eqv]
    have shs : SeqAt.shaped (PyData.str "bad") = true := by decide +kernel
    have shi : ∀ {i : Int}, SeqAt.shaped (PyData.int i) = true := by intro s; simp [SeqAt.shaped, PyData.canLay0, PyData.depth]
    have ei : ∀ i : Int, PyData.eqv (.int i) (.int i) = true := by intro i; simp [PyData.eqv]
    refine ⟨_, rfl, l, _, _, _, rfl, rfl, SqL.of el2, rfl, _, _, Dp.str _, Dp.str _, shs, shs, _, rfl, ?_⟩
    rw [eg]
    refine ⟨_, rfl, rfl, rfl, d, _, rfl, upd_same, _, _, _, _, true, rfl, .ty "int", tyX_int, kty k_ii, _, rfl, ?_⟩
    refine ⟨_, rfl, rfl, rfl, d, _, rfl, upd_same, _, _, _, _, false, rfl, .ty "bool", tyX_int, kty k_ib, ?_⟩
    refine ⟨_, rfl, _, rfl, _, rfl, rfl, rfl, d, _, rfl, upd_same, _, rfl, l, _, _, _, rfl, rfl, SqL.of el2, rfl, _, _, Dp.int _, Dp.int _, shi, shi, ?_⟩
    rw [ei]
    exact q _ ((s1.trans s2).trans (same_new nd))

/-! ### _law_text, _law_words -/
mutual
theorem wr_le : ∀ {t : Tr}, TOk t → (wr t).length + 1 ≤ 16 * t.size
  | .w s, h => by
    simp only [TOk] at h
    obtain ⟨c, r, e, _, _, h12⟩ := h
    simp only [wr, e, Tr.size, List.length_cons]; omega
  | .l ts, h => by
    simp only [TOk] at h
    have := wrs_le h
    simp only [wr, Tr.size, List.length_cons, List.length_append, List.length_nil]; omega
theorem wrs_le : ∀ {ts : List Tr}, TOks ts → (wrs ts).length ≤ 16 * Tr.sizes ts
  | [], _ => by simp [wrs]
  | [t], h => by
    simp only [TOks] at h
    have := wr_le h.1
    simp only [wrs, Tr.sizes]; omega
  | t :: u :: ts, h => by
    rw [TOks] at h
    have h1 := wr_le h.1
    have h2 := wrs_le h.2
    have e : (wrs (t :: u :: ts)).length = (wr t).length + ((wrs (u :: ts)).length + 1) := by simp [wrs]
    have e2 : Tr.sizes (t :: u :: ts) = t.size + Tr.sizes (u :: ts) := rfl
    omega
end
theorem join_sp : ∀ {ts : List Tr} {ys : List Str}, ys.map (fun s => s.cps.toList) = ts.map wr → (Txt.join spS ys).cps.toList = wrs ts := by
  intro ts ys h
  rw [eq_of_beq (PyProof.Rows.join_plain_closes spS ys)]
  induction ts generalizing ys with
  | nil =>
    have : ys = [] := by simpa using h
    subst this; rfl
  | cons t ts ih =>
    cases ys with
    | nil => simp at h
    | cons y ys =>
      simp only [List.map_cons, List.cons.injEq] at h
      cases ts with
      | nil =>
        have : ys = [] := by simpa using h.2
        subst this
        simp only [Str.join, wrs]; exact h.1
      | cons u ts =>
        cases ys with
        | nil => simp at h
        | cons z ys =>
          have e := ih h.2
          have e2 : Str.join spS (y :: z :: ys) = y ++ spS ++ Str.join spS (z :: ys) := rfl
          rw [e2, app_cps, app_cps, h.1, e, sp_cps]
          simp [wrs]
def spText (K : PySem.W.Frag) (n : Nat) : Sp := fun vs H Q _ => ∃ (t : Tr) (v : V), vs = [v] ∧ IsT K H t v ∧ TOk t ∧ t.depth < n ∧ t.size ≤ 30000 ∧ ∀ (z : Str) (H' : Hp), Same H H' → z.cps.toList = wr t → Q (.str z) H'
theorem noSp {P : Program} {w : World} {K : PySem.W.Frag} {mg : Str → Option Value} {base : Heap} {f : Addr} {fd : FuncData} {ps : List Str} {sp : Sp} {k : Nat} {CX : CXT} (no : ∀ vs H Q E, ¬ sp vs H Q E) : FnOk P w K mg base CX k f fd ps sp :=
  ⟨fun vs H Q E h => absurd h (no vs H Q E), fun A outer s H args us vs Q E _ _ _ _ h => absurd h (no vs H Q E)⟩
theorem ok_text {P : Program} {w : World} {K : PySem.W.Frag} {mg : Str → Option Value} {base : Heap} (T : Top K mg) :
    ∀ n : Nat, FnOk P w K mg base CX0 (n + 1) T.a_law_text T.d_law_text ["_law_value_here"] (spText K n) := by
  intro n
  induction n with
  | zero => exact noSp fun vs H Q E h => by obtain ⟨_, _, _, _, _, hm, _⟩ := h; exact Nat.not_lt_zero _ hm
  | succ n G_law_text =>
  refine T.F_law_text.ok sc_law_text (fun vs H Q E h => ?_) (fun cdv A outer s H vs Q E hr h => ?_)
  · obtain ⟨t, v, rfl, _⟩ := h
    rfl
  obtain ⟨t, v, rfl, hv, ok, hd, hsz, q⟩ := h
  refine ⟨_, (pss_cons (ps_if (pt_val (pe_callB call_isi rfl T.n_isinstance bo_isinstance (pa_cons (pv 0) (pa_cons (pe_bltn (v := .ty "str") rfl T.n_str bo_str rfl) pa_nil)))) (pss_one (ps_ret (pv 0))) pss_nil)
    (pss_one (ps_ret (pe_op op_add_str (pe_op op_add_str pe_str (pe_join pe_str (pe_lc (own := [("_law_one", 1)]) (g := gName 1) (tt := tYes) (by rfl) sc_law_text.nd (pi_tup (pv 0)) (blkOk_by (N := ["_law_value_here", "_law_one"]) (sc := defScope s_law_text) (by decide +kernel)) (fun _ _ _ _ _ => pg_name (i := 1) sc_law_text.nd rfl (Or.inl rfl)) (fun _ _ _ _ _ => pts_nil) (fun _ _ _ _ _ => (pe_call G_law_text (hr.mono (by omega)) rfl T.m_law_text T.F_law_text.kp T.b_law_text .nil pass0 (pa_cons (pv 1) pa_nil)))))) pe_str)))), ?_⟩
  cases t with
  | w s =>
    obtain rfl := isT_w.mp hv
    exact ⟨_, rfl, _, _, _, _, true, rfl, .ty "str", tyX_str, kty k_ss, true, rfl, _, rfl, q s H (Same.refl H) rfl⟩
  | l ts =>
    obtain ⟨a, us, rfl, ha, hus⟩ := isT_l.mp hv
    refine ⟨_, rfl, _, _, _, _, false, rfl, .ty "str", tyX_tup ha, kty k_ts, false, rfl, ?_⟩
    have hl := hus.length
    simp only [TOk] at ok
    simp only [Tr.depth] at hd
    simp only [Tr.size] at hsz
    have hlt := Tr.length_le_sizes ts
    refine ⟨⟨_, rfl⟩, _, rfl, a, rfl, ⟨_, ha⟩, fun D nD => ?_⟩
    refine lc_tup (K := K) (a := a) (xs := us) (fun i H' => ∃ ys : List Str, Same H H' ∧ H' D = some (.lst (ys.map V.str)) ∧ ys.map (fun s => s.cps.toList) = (ts.take i).map wr)
      ⟨[], same_new nD, upd_same, by simp⟩ (fun i H' _ h => let ⟨_, s1, _⟩ := h; TK.same s1 _ _ ha) (fun i x H1 hx h => ?_) (fun H1 h => ?_)
    · obtain ⟨ys, s1, eD, ey⟩ := h
      obtain ⟨t, gt, ht⟩ := hus.tree hx
      have hi : i < ts.length := (List.getElem?_eq_some_iff.mp gt).1
      have tm : t ∈ ts := List.mem_of_getElem? gt
      refine ⟨rfl, _, rfl, t, x, rfl, ht.tk (TK.same s1), toks_mem ok t tm, ?_, ?_, fun z H2 s2 ez => ?_⟩
      · have := Tr.depth_mem tm; omega
      · have := Tr.size_mem tm; omega
      · have ly : ys.length = i := by
          have := congrArg List.length ey
          rw [List.length_map, List.length_map, List.length_take] at this
          omega
        refine ⟨_, s2 _ _ eD, szl (by rw [List.length_map]; omega), ys ++ [z], fun b o e => ?_, ?_, ?_⟩
        · rw [upd_ne (ne_of_none e nD)]; exact s2 _ _ (s1 b o e)
        · rw [upd_same]; simp
        · rw [List.map_append, ey, List.take_add_one, gt, List.map_append]
          simp [ez]
    · obtain ⟨ys, s1, eD, ey⟩ := h
      rw [hl, List.take_length] at ey
      have ej := join_sp ey
      have hw := wrs_le ok
      have e1 : (ys.map (·.length)).sum ≤ (wrs ts).length := by
        have : ∀ {ts : List Tr} {ys : List Str}, ys.map (fun s => s.cps.toList) = ts.map wr → (ys.map (·.length)).sum ≤ (wrs ts).length := by
          intro ts ys h
          have h2 := slens ys
          have : ys.flatMap (fun s => s.cps.toList) = ts.flatMap wr := by
            rw [List.flatMap_def, List.flatMap_def, h]
          rw [h2, this]
          clear h h2 this
          induction ts with
          | nil => simp
          | cons t ts ih =>
            cases ts with
            | nil => simp [wrs]
            | cons u ts =>
              have e : (wrs (t :: u :: ts)).length = (wr t).length + ((wrs (u :: ts)).length + 1) := by simp [wrs]
              rw [List.flatMap_cons, List.length_append, e]; omega
        exact this ey
      have e2 : ys.length = ts.length := by
        have := congrArg List.length ey
        simpa using this
      have l1 : spS.length = 1 := by decide +kernel
      have lo : opS.length = 1 := by decide +kernel
      have lc : clS.length = 1 := by decide +kernel
      have lj : (Txt.join spS ys).length ≤ 500000 := by rw [← slen, ej]; omega
      have lcat : ∀ x y : Str, (x ++ y).length = x.length + y.length := fun x y => by rw [← slen, app_cps, List.length_append, slen, slen]
      refine ⟨spS, D, ys, rfl, rfl, .inl (SqL.of eD), by rw [l1]; omega, opS, _, rfl, rfl, sz (by rw [lo]; omega), _, clS, rfl, rfl, sz (by rw [lcat, lo, lc]; omega), ?_⟩
      exact q _ H1 s1 (by rw [app_cps, app_cps, ej, op_cps, cl_cps]; simp [wr])

/-! ### _law_deep -/
theorem scat (x y : Str) : (x ++ y).length = x.length + y.length := by rw [← slen, app_cps, List.length_append, slen, slen]
theorem pos_3 : (0 : Int) < 3 := by decide
def sel3 {α : Type} (k : Int) (a b c : α) : α := if k = 0 then a else if k = 1 then b else c
theorem at3 {α : Type} {a b c : α} {k : Int} (h0 : 0 ≤ k) (h1 : k < 3) : atI [a, b, c] k = some (sel3 k a b c) := by
  have e : k = 0 ∨ k = 1 ∨ k = 2 := by omega
  rcases e with rfl | rfl | rfl <;> rfl
def dwords : List Str := ["a", "b2", "quote"]
theorem dwords_ok : ∀ s ∈ dwords, WOk s ∧ s.length ≤ 5 := by
  intro s hs
  simp only [dwords, List.mem_cons, List.not_mem_nil, or_false] at hs
  rcases hs with rfl | rfl | rfl
  · exact ⟨⟨97, [], by decide +kernel, by decide +kernel, by decide +kernel, by decide⟩, by decide +kernel⟩
  · exact ⟨⟨98, [50], by decide +kernel, by decide +kernel, by decide +kernel, by decide⟩, by decide +kernel⟩
  · exact ⟨⟨113, [117, 111, 116, 101], by decide +kernel, by decide +kernel, by decide +kernel, by decide⟩, by decide +kernel⟩
theorem sel_d {k : Int} (a b c : Str) (h0 : 0 ≤ k) (h1 : k < 3) : sel3 k a b c ∈ [a, b, c] := by
  have e : k = 0 ∨ k = 1 ∨ k = 2 := by omega
  rcases e with rfl | rfl | rfl <;> simp [sel3]
theorem sel_str {k : Int} {a b c : Str} : sel3 k (V.str a) (V.str b) (V.str c) = V.str (sel3 k a b c) := by
  unfold sel3; split
  · rfl
  · split <;> rfl
abbrev flatS (l : List Str) : List Nat := l.flatMap fun s => s.cps.toList
def spDeep (K : PySem.W.Frag) : Sp := fun vs H Q _ => ∃ (h d : Addr) (ds : List Int) (t : Tr) (v : V), vs = [.ref h, v] ∧ Hnd H h d ds ∧ IsT K H t v ∧ TOk t ∧ t.size ≤ 30000 ∧
  ∀ (p : Addr) (t' : Tr) (v' : V) (l r : Str) (H' : Hp), Kp (At h) H H' → Hnd H' h d ds → H' p = some (.lst [v', .str l, .str r]) → IsT K H' t' v' → TOk t' → l.cps.toList ++ wr t ++ r.cps.toList = wr t' → t'.size ≤ t.size + 400 → Q (.ref p) H'
theorem ok_deep {P : Program} {w : World} {K : PySem.W.Frag} {mg : Str → Option Value} {base : Heap} (T : Top K mg) {k : Nat} (G_law_take : FnOk P w K mg base CX0 1 T.a_law_take T.d_law_take ["_law_hand", "_law_many"] spTake) : FnOk P w K mg base CX0 (k + 2) T.a_law_deep T.d_law_deep ["_law_hand", "_law_inner"] (spDeep K) := by
  refine T.F_law_deep.ok sc_law_deep (fun vs H Q E h => ?_) (fun cdv A outer s H vs Q E hr h => ?_)
  · obtain ⟨h, d, ds, t, v, rfl, _⟩ := h
    rfl
  obtain ⟨h, d, ds, t, v, rfl, hh, hv, ok, hsz, q⟩ := h
  refine ⟨_, (pss_cons (ps_set (i := 2) sc_law_deep.nd rfl (Or.inl rfl) (pv 1))
    (pss_cons (ps_set (i := 3) sc_law_deep.nd rfl (Or.inl rfl) (pe_lst pa_nil))
    (pss_cons (ps_set (i := 4) sc_law_deep.nd rfl (Or.inl rfl) (pe_lst pa_nil))
    (pss_cons (ps_set (i := 5) sc_law_deep.nd rfl (Or.inl rfl) (pe_call G_law_take (hr.mono (by omega)) rfl T.m_law_take T.F_law_take.kp T.b_law_take .nil pass0 (pa_cons (pv 0) (pa_cons pe_int pa_nil))))
    (pss_cons (ps_for PassesOwn.never rfl (pi_range1 rfl T.n_range (pa_cons (pe_op op_add pe_int (pe_call G_law_take (hr.mono (by omega)) rfl T.m_law_take T.F_law_take.kp T.b_law_take .nil pass0 (pa_cons (pv 0) (pa_cons pe_int pa_nil)))) pa_nil)) (pg_name (i := 6) sc_law_deep.nd rfl (Or.inl rfl)) (pss_cons (ps_set (i := 7) sc_law_deep.nd rfl (Or.inl rfl) (pe_op op_mod (pe_callTy call_int1 rfl T.n_int bo_int (pa_cons (pe_op op_add (pe_op op_fdiv (pv 5) (pe_op op_add pe_int (pv 6))) (pe_op op_mul (pv 6) (pv 5))) pa_nil)) pe_int))
    (pss_cons (ps_set (i := 8) sc_law_deep.nd rfl (Or.inl rfl) (pe_ix ix_list (pe_lst (pa_cons pe_str (pa_cons pe_str (pa_cons pe_str pa_nil)))) (pe_op op_mod (pe_callTy call_int1 rfl T.n_int bo_int (pa_cons (pe_op op_add (pv 5) (pe_op op_mul (pv 6) (pv 6))) pa_nil)) pe_int) (fun _ _ => rfl)))
    (pss_cons (ps_set (i := 2) sc_law_deep.nd rfl (Or.inl rfl) (pe_ix ix_list (pe_lst (pa_cons (pe_tup (pa_cons (pv 2) pa_nil)) (pa_cons (pe_tup (pa_cons (pv 8) (pa_cons (pv 2) pa_nil))) (pa_cons (pe_tup (pa_cons (pv 2) (pa_cons (pv 8) pa_nil))) pa_nil)))) (pv 7) (fun _ _ => rfl)))
    (pss_cons (ps_expr (pe_bm PySem.F.plainAttrs_list PySem.F.slot_list_append PySem.F.type_list_append mt_append (pv 3) (pa_cons (pe_ix ix_list (pe_lst (pa_cons pe_str (pa_cons (pe_op op_add_str (pe_op op_add_str pe_str (pv 8)) pe_str) (pa_cons pe_str pa_nil)))) (pv 7) (fun _ _ => rfl)) pa_nil)))
    (pss_one (ps_expr (pe_bm PySem.F.plainAttrs_list PySem.F.slot_list_append PySem.F.type_list_append mt_append (pv 4) (pa_cons (pe_ix ix_list (pe_lst (pa_cons pe_str (pa_cons pe_str (pa_cons (pe_op op_add_str (pe_op op_add_str pe_str (pv 8)) pe_str) pa_nil)))) (pv 7) (fun _ _ => rfl)) pa_nil)))))))))
    (pss_one (ps_ret (pe_lst (pa_cons (pv 2) (pa_cons (pe_join pe_str (pe_revL (pv 3))) (pa_cons (pe_join pe_str (pv 4)) pa_nil))))))))))), ?_⟩
  refine ⟨_, rfl, Nat.zero_le _, fun L nL => ⟨Nat.zero_le _, fun R nR => ?_⟩⟩
  have nLR : L ≠ R := ne_of_none upd_same nR
  have hh1 := (hh.new (o := .lst []) nL).new (o := .lst []) nR
  have k1 : Kp (At h) H (upd (upd H L (.lst [])) R (.lst [])) := (Kp.refl.new nL).new nR
  have nRH : H R = none := (same_new (H := H) nL (o := .lst [])).free nR
  have eL1 : (upd (upd H L (.lst [])) R (.lst [])) L = some (.lst []) := by rw [upd_ne nLR, upd_same]
  have eR1 : (upd (upd H L (.lst [])) R (.lst [])) R = some (.lst []) := upd_same
  have nLh : L ≠ h := hh.neH nL
  have nRh : R ≠ h := hh.neH nRH
  have nLd : L ≠ d := hh.neD nL
  have nRd : R ≠ d := hh.neD nRH
  refine ⟨_, rfl, h, d, ds, 100003, rfl, hh1, by decide, fun seed H2 sa sb k2 hh2 => ?_⟩
  refine ⟨_, rfl, h, d, ds, 137, rfl, hh2, by decide, fun r2 H3 ra rb k3 hh3 => ⟨_, _, rfl, rfl, 60 + r2, rfl, by omega, by omega, ?_⟩⟩
  have k13 := (k1.trans k2).trans k3
  have eL3 : H3 L = some (.lst []) := k3 L _ nLh (k2 L _ nLh eL1)
  have eR3 : H3 R = some (.lst []) := k3 R _ nRh (k2 R _ nRh eR1)
  refine for_range (lo := 0) (n := (60 + r2).toNat) (fun i σ H' => ∃ (t' : Tr) (v' : V) (ls rs : List Str) (y6 y7 y8 : Option V), σ = [some (.ref h), some v, some v', some (.ref L), some (.ref R), some (.int seed), y6, y7, y8] ∧ Kp (At h) H H' ∧ Hnd H' h d ds ∧
    H' L = some (.lst (ls.map V.str)) ∧ H' R = some (.lst (rs.map V.str)) ∧ IsT K H' t' v' ∧ TOk t' ∧ flatS ls.reverse ++ wr t ++ flatS rs = wr t' ∧ ls.length = i ∧ rs.length = i ∧ t'.size ≤ t.size + 2 * i)
    ⟨t, v, [], [], _, _, _, rfl, k13, hh3, eL3, eR3, hv.tk (hh.tk k13), ok, by simp [flatS], rfl, rfl, by omega⟩ (fun i σ H4 hi hP => ?_) (fun σ H4 hP => ?_)
  · obtain ⟨t', v', ls, rs, y6, y7, y8, rfl, k4, hh4, eL, eR, hv', ok', htx, ll, lr, hsz'⟩ := hP
    have hi2 : i < 200 := by omega
    refine ⟨_, rfl, _, rfl, _, _, rfl, rfl, _, _, rfl, rfl, ⟨?_, ?_⟩, _, rfl, _, rfl, _, _, rfl, rfl, .inl ⟨by omega, by omega⟩, _, _, rfl, rfl, .inl ⟨_, rfl, _, _, rfl, rfl, pos_3, ?_⟩⟩
    · show (0 : Int) < 1 + (0 + (i : Int)); omega
    · show 1 + (0 + (i : Int)) < 1073741824; omega
    have kd0 := Int.emod_nonneg (seed / (1 + (0 + (i : Int))) + (0 + (i : Int)) * seed) (show (3 : Int) ≠ 0 by decide)
    have kd1 := Int.emod_lt_of_pos (seed / (1 + (0 + (i : Int))) + (0 + (i : Int)) * seed) pos_3
    dsimp only
    generalize (seed / (1 + (0 + (i : Int))) + (0 + (i : Int)) * seed) % 3 = kd at kd0 kd1 ⊢
    refine ⟨by show 3 ≤ sizeLine; decide, fun A1 nA1 => ⟨_, rfl, _, rfl, _, rfl, _, _, rfl, rfl, .inl ⟨by omega, by omega⟩, _, _, rfl, rfl, .inl ⟨_, rfl, _, _, rfl, rfl, pos_3, ?_⟩⟩⟩
    have wd0 := Int.emod_nonneg (seed + (0 + (i : Int)) * (0 + (i : Int))) (show (3 : Int) ≠ 0 by decide)
    have wd1 := Int.emod_lt_of_pos (seed + (0 + (i : Int)) * (0 + (i : Int))) pos_3
    refine ⟨A1, _, _, _, rfl, rfl, SqL.of upd_same, at3 wd0 wd1, ?_⟩
    rw [sel_str]
    have hw := sel_d (k := (seed + (0 + (i : Int)) * (0 + (i : Int))) % 3) "a" "b2" "quote" wd0 wd1
    generalize sel3 ((seed + (0 + (i : Int)) * (0 + (i : Int))) % 3) ("a" : Str) "b2" "quote" = wd at hw ⊢
    obtain ⟨wok, wl⟩ := dwords_ok wd hw
    -- the value
    refine ⟨_, rfl, by show 1 ≤ sizeLine; decide, fun T1 nT1 => ⟨_, rfl, _, rfl, by show 2 ≤ sizeLine; decide, fun T2 nT2 => ⟨_, rfl, _, rfl, by show 2 ≤ sizeLine; decide, fun T3 nT3 => ⟨by show 3 ≤ sizeLine; decide, fun A2 nA2 => ?_⟩⟩⟩⟩
    have s1 : Same H4 (upd H4 A1 (.lst [.str "a", .str "b2", .str "quote"])) := same_new nA1
    have s2 := s1.trans (same_new (o := .tup [v']) nT1)
    have s3 := s2.trans (same_new (o := .tup [.str wd, v']) nT2)
    have s4 := s3.trans (same_new (o := .tup [v', .str wd]) nT3)
    have s5 := s4.trans (same_new (o := .lst [.ref T1, .ref T2, .ref T3]) nA2)
    have z1 : _ = some (HO.tup [v']) := (((same_new (o := .tup [.str wd, v']) nT2).trans (same_new (o := .tup [v', .str wd]) nT3)).trans (same_new (o := .lst [.ref T1, .ref T2, .ref T3]) nA2)) _ _ upd_same
    have z2 : _ = some (HO.tup [.str wd, v']) := ((same_new (o := .tup [v', .str wd]) nT3).trans (same_new (o := .lst [.ref T1, .ref T2, .ref T3]) nA2)) _ _ upd_same
    have z3 : _ = some (HO.tup [v', .str wd]) := (same_new (o := .lst [.ref T1, .ref T2, .ref T3]) nA2) _ _ upd_same
    have z4 : _ = some (HO.lst [.ref T1, .ref T2, .ref T3]) := upd_same (H := (upd (upd (upd (upd H4 A1 (.lst [.str "a", .str "b2", .str "quote"])) T1 (.tup [v'])) T2 (.tup [.str wd, v'])) T3 (.tup [v', .str wd]))) (a := A2) (o := .lst [.ref T1, .ref T2, .ref T3])
    generalize (upd (upd (upd (upd (upd H4 A1 (.lst [.str "a", .str "b2", .str "quote"])) T1 (.tup [v'])) T2 (.tup [.str wd, v'])) T3 (.tup [v', .str wd])) A2 (.lst [.ref T1, .ref T2, .ref T3])) = H5 at s5 z1 z2 z3 z4 ⊢
    have hv5 := hv'.tk (TK.same (K := K) s5)
    refine ⟨_, rfl, A2, _, kd, _, rfl, rfl, SqL.of z4, at3 kd0 kd1, ?_⟩
    have eL5 := s5 _ _ eL
    have eR5 := s5 _ _ eR
    -- left.append
    refine ⟨_, rfl, .inl ⟨rfl, _, SqL.of eL5⟩, _, rfl, _, _, rfl, rfl, sz (by rw [show opS.length = 1 by decide +kernel]; omega), _, _, rfl, rfl, sz (by rw [scat, show opS.length = 1 by decide +kernel, show spS.length = 1 by decide +kernel]; omega), by show 3 ≤ sizeLine; decide, fun A3 nA3 => ?_⟩
    refine ⟨_, rfl, A3, _, kd, _, rfl, rfl, SqL.of upd_same, at3 kd0 kd1, ?_⟩
    have eL6 := (same_new (o := .lst [.str opS, .str (opS ++ wd ++ spS), .str opS]) nA3) _ _ eL5
    refine ⟨L, _, _, rfl, rfl, eL6, szl (by rw [List.length_map]; omega), ?_⟩
    rw [sel_str]
    have s6 : Same H5 (upd H5 A3 (.lst [.str opS, .str (opS ++ wd ++ spS), .str opS])) := same_new nA3
    have eR7 : (upd (upd H5 A3 (.lst [.str opS, .str (opS ++ wd ++ spS), .str opS])) L (.lst (ls.map V.str ++ [.str (sel3 kd opS (opS ++ wd ++ spS) opS)]))) R = some (.lst (rs.map V.str)) := by rw [upd_ne nLR.symm]; exact s6 _ _ eR5
    -- right.append
    refine ⟨_, rfl, .inl ⟨rfl, _, SqL.of eR7⟩, _, rfl, _, _, rfl, rfl, sz (by rw [show spS.length = 1 by decide +kernel]; omega), _, _, rfl, rfl, sz (by rw [scat, show spS.length = 1 by decide +kernel, show clS.length = 1 by decide +kernel]; omega), by show 3 ≤ sizeLine; decide, fun A4 nA4 => ?_⟩
    refine ⟨_, rfl, A4, _, kd, _, rfl, rfl, SqL.of upd_same, at3 kd0 kd1, ?_⟩
    have eR8 := (same_new (o := .lst [.str clS, .str clS, .str (spS ++ wd ++ clS)]) nA4) _ _ eR7
    refine ⟨R, _, _, rfl, rfl, eR8, szl (by rw [List.length_map]; omega), ?_⟩
    rw [sel_str]
    have kF : Kp (At h) H (upd (upd (upd (upd H5 A3 (.lst [.str opS, .str (opS ++ wd ++ spS), .str opS])) L (.lst (ls.map V.str ++ [.str (sel3 kd opS (opS ++ wd ++ spS) opS)]))) A4 (.lst [.str clS, .str clS, .str (spS ++ wd ++ clS)])) R (.lst (rs.map V.str ++ [.str (sel3 kd clS clS (spS ++ wd ++ clS))]))) :=
      ((((k4.trans (Kp.of s5)).new nA3).put (.inr nL)).new nA4).put (.inr nRH)
    have hF : Hnd (upd (upd (upd (upd H5 A3 (.lst [.str opS, .str (opS ++ wd ++ spS), .str opS])) L (.lst (ls.map V.str ++ [.str (sel3 kd opS (opS ++ wd ++ spS) opS)]))) A4 (.lst [.str clS, .str clS, .str (spS ++ wd ++ clS)])) R (.lst (rs.map V.str ++ [.str (sel3 kd clS clS (spS ++ wd ++ clS))]))) h d ds :=
      ((((hh4.same s5).new nA3).put nLh nLd).new nA4).put nRh nRd
    have tF : TK K H5 (upd (upd (upd (upd H5 A3 (.lst [.str opS, .str (opS ++ wd ++ spS), .str opS])) L (.lst (ls.map V.str ++ [.str (sel3 kd opS (opS ++ wd ++ spS) opS)]))) A4 (.lst [.str clS, .str clS, .str (spS ++ wd ++ clS)])) R (.lst (rs.map V.str ++ [.str (sel3 kd clS clS (spS ++ wd ++ clS))]))) :=
      (((TK.new nA3).trans (TK.put (mut_lst eL6))).trans (TK.new nA4)).trans (TK.put (mut_lst eR8))
    have eLF : (upd (upd (upd (upd H5 A3 (.lst [.str opS, .str (opS ++ wd ++ spS), .str opS])) L (.lst (ls.map V.str ++ [.str (sel3 kd opS (opS ++ wd ++ spS) opS)]))) A4 (.lst [.str clS, .str clS, .str (spS ++ wd ++ clS)])) R (.lst (rs.map V.str ++ [.str (sel3 kd clS clS (spS ++ wd ++ clS))]))) L = some (.lst ((ls ++ [sel3 kd opS (opS ++ wd ++ spS) opS]).map V.str)) := by
      rw [upd_ne nLR, upd_ne (ne_of_none upd_same nA4), upd_same]; simp
    have eRF : (upd (upd (upd (upd H5 A3 (.lst [.str opS, .str (opS ++ wd ++ spS), .str opS])) L (.lst (ls.map V.str ++ [.str (sel3 kd opS (opS ++ wd ++ spS) opS)]))) A4 (.lst [.str clS, .str clS, .str (spS ++ wd ++ clS)])) R (.lst (rs.map V.str ++ [.str (sel3 kd clS clS (spS ++ wd ++ clS))]))) R = some (.lst ((rs ++ [sel3 kd clS clS (spS ++ wd ++ clS)]).map V.str)) := by
      rw [upd_same]; simp
    generalize (upd (upd (upd (upd H5 A3 (.lst [.str opS, .str (opS ++ wd ++ spS), .str opS])) L (.lst (ls.map V.str ++ [.str (sel3 kd opS (opS ++ wd ++ spS) opS)]))) A4 (.lst [.str clS, .str clS, .str (spS ++ wd ++ clS)])) R (.lst (rs.map V.str ++ [.str (sel3 kd clS clS (spS ++ wd ++ clS))]))) = HF at kF hF tF eLF eRF ⊢
    have hvF := hv5.tk tF
    have wdT : IsT K HF (.w wd) (.str wd) := IsT.str
    have wdO : TOk (.w wd) := by simpa [TOk] using wok
    have l1 : (ls ++ [sel3 kd opS (opS ++ wd ++ spS) opS]).length = i + 1 := by simp [ll]
    have l2 : (rs ++ [sel3 kd clS clS (spS ++ wd ++ clS)]).length = i + 1 := by simp [lr]
    have htx2 : ∀ a b : Str, flatS (ls ++ [a]).reverse ++ wr t ++ flatS (rs ++ [b]) = a.cps.toList ++ wr t' ++ b.cps.toList := fun a b => by
      rw [← htx]; simp [flatS]
    have ek : kd = 0 ∨ kd = 1 ∨ kd = 2 := by omega
    rcases ek with rfl | rfl | rfl
    · refine ⟨.l [t'], .ref T1, _, _, _, _, _, rfl, kF, hF, eLF, eRF, IsT.tup (tF _ _ (SqT.of z1)) (.one hvF), by simpa [TOk, TOks] using ok', ?_, l1, l2, by simp only [Tr.size, Tr.sizes]; omega⟩
      rw [htx2]; simp [sel3, wr, wrs, op_cps, cl_cps]
    · refine ⟨.l [.w wd, t'], .ref T2, _, _, _, _, _, rfl, kF, hF, eLF, eRF, IsT.tup (tF _ _ (SqT.of z2)) (.cons wdT (.one hvF)), by simpa [TOk, TOks] using And.intro wok ok', ?_, l1, l2, by simp only [Tr.size, Tr.sizes]; omega⟩
      rw [htx2]; simp [sel3, wr, wrs, op_cps, cl_cps, sp_cps, app_cps]
    · refine ⟨.l [t', .w wd], .ref T3, _, _, _, _, _, rfl, kF, hF, eLF, eRF, IsT.tup (tF _ _ (SqT.of z3)) (.cons hvF (.one wdT)), by simpa [TOk, TOks] using And.intro ok' wok, ?_, l1, l2, by simp only [Tr.size, Tr.sizes]; omega⟩
      rw [htx2]; simp [sel3, wr, wrs, op_cps, cl_cps, sp_cps, app_cps]
  · obtain ⟨t', v', ls, rs, y6, y7, y8, rfl, k4, hh4, eL, eR, hv', ok', htx, ll, lr, hsz'⟩ := hP
    have hw := wr_le ok'
    have tot : (flatS ls.reverse).length + (flatS rs).length ≤ 600000 := by
      have := congrArg List.length htx
      rw [List.length_append, List.length_append] at this
      omega
    have ez : ("" : Str).length = 0 := by decide +kernel
    refine ⟨_, rfl, ⟨_, rfl⟩, _, rfl, L, _, rfl, SqL.of eL, fun M nM => ?_⟩
    refine ⟨("" : Str), M, ls.reverse, rfl, rfl, .inl (SqL.of (by rw [upd_same, List.map_reverse])), by rw [ez, slens]; simp only [flatS] at tot; omega, ⟨_, rfl⟩, _, rfl, ?_⟩
    have eR2 := (same_new (o := .lst (ls.map V.str).reverse) nM) _ _ eR
    refine ⟨("" : Str), R, rs, rfl, rfl, .inl (SqL.of eR2), by rw [ez, slens]; simp only [flatS] at tot; omega, by show 3 ≤ sizeLine; decide, fun p np => ?_⟩
    refine q p t' v' _ _ _ ((k4.new nM).new np) ((hh4.new nM).new np) upd_same ((hv'.tk (TK.new nM)).tk (TK.new np)) ok' ?_ (by omega)
    rw [join_cps, join_cps]; exact htx

/-! ### law -/
theorem pos_4 : (0 : Int) < 4 := by decide
theorem pos_2 : (0 : Int) < 2 := by decide
theorem pos_12 : (0 : Int) < 12 := by decide
theorem pos_99 : (0 : Int) < 99 := by decide
def spLaw (K : PySem.W.Frag) : Sp := fun vs H Q _ => ∃ (a : Addr) (ns : List Int), vs = [.ref a] ∧ SqL K H a (ns.map V.int) ∧ ns.length ≤ 63 ∧ ∀ H', Q (.bl true) H'
theorem ok_law {P : Program} {w : World} {K : PySem.W.Frag} {mg : Str → Option Value} {base : Heap} (T : Top K mg) : FnOk P w K mg base CX0 8 T.a_law T.d_law ["_law_script"] (spLaw K) := by
  have G_law_draws := ok_draws (P := P) (w := w) (base := base) T (k := 0)
  have G_law_take := ok_take (P := P) (w := w) (base := base) T (k := 0)
  have G_law_word := ok_word (P := P) (w := w) (base := base) T (k := 0) G_law_take
  have G_law_value := ok_value (P := P) (w := w) (base := base) T G_law_take G_law_word 5
  have G_law_text := ok_text (P := P) (w := w) (base := base) T 5
  have G_law_deep := ok_deep (P := P) (w := w) (base := base) T (k := 0) G_law_take
  have G_law_like := ok_like (P := P) (w := w) (base := base) T (k := 0)
  have G_law_piece := ok_piece (P := P) (w := w) (base := base) T (k := 0) G_law_take G_law_word
  have G_law_spoilt := ok_spoilt (P := P) (w := w) (base := base) T (k := 0) G_law_take G_law_piece
  have G_law_run_end := ok_run_end (P := P) (w := w) (base := base) T (k := 0)
  have G_law_read := ok_read (P := P) (w := w) (base := base) T (k := 0) G_law_run_end
  have G_behind_run := ok_behind_run (P := P) (w := w) (base := base) T (k := 0)
  have G_behind_word := ok_behind_wordX (P := P) (w := w) (base := base) T (k := 0) G_behind_run
  have G_read_value := ok_read_valueX (P := P) (w := w) (base := base) T (k := 0) G_behind_run G_behind_word
  have G_law_is_right := ok_is_right (P := P) (w := w) (base := base) T (k := 0) G_law_read G_read_value G_law_like
  refine T.F_law.ok sc_law (fun vs H Q E h => ?_) (fun cdv A outer s H vs Q E hr h => ?_)
  · obtain ⟨a, ns, rfl, _⟩ := h
    rfl
  obtain ⟨a, ns, rfl, hS, h63, q⟩ := h
  refine ⟨_, (pss_cons (ps_set (i := 1) sc_law.nd rfl (Or.inr rfl) (pe_lst (pa_cons (pe_call G_law_draws (hr.mono (by omega)) rfl T.m_law_draws T.F_law_draws.kp T.b_law_draws .nil pass0 (pa_cons (pv 0) (pa_cons pe_int pa_nil))) (pa_cons pe_int pa_nil))))
    (pss_cons (ps_setLc (i := 2) (own := [("_law_k", 12)]) (g := gName 12) (tt := tYes) (by rfl) sc_law.nd rfl rfl (sw_true rfl rfl rfl (by decide +kernel)) (pi_range1 rfl T.n_range (pa_cons (pe_call G_law_take (hr.mono (by omega)) rfl T.m_law_take T.F_law_take.kp T.b_law_take .nil pass0 (pa_cons (pv 1) (pa_cons pe_int pa_nil))) pa_nil)) (blkOk_by (N := ["_law_script", "_law_hand", "_law_pieces", "_law_text_here", "_law_one", "_law_place", "_law_made", "_law_whole", "_law_at", "_law_deep_here", "_law_left", "_law_right", "_law_k"]) (sc := defScope s_law) (by decide +kernel)) (fun _ _ _ _ _ => pg_name (i := 12) sc_law.nd rfl (Or.inl rfl)) (fun _ _ _ _ _ => pts_nil) (fun _ _ _ _ _ => (pe_call G_law_piece (hr.mono (by omega)) rfl T.m_law_piece T.F_law_piece.kp T.b_law_piece .nil pass0 (pa_cons (pv 1) pa_nil))))
    (pss_cons (ps_set (i := 3) sc_law.nd rfl (Or.inl rfl) (pe_call G_law_text (hr.mono (by omega)) rfl T.m_law_text T.F_law_text.kp T.b_law_text .nil pass0 (pa_cons (pe_call G_law_value (hr.mono (by omega)) rfl T.m_law_value T.F_law_value.kp T.b_law_value .nil pass0 (pa_cons (pv 1) (pa_cons (pe_call G_law_take (hr.mono (by omega)) rfl T.m_law_take T.F_law_take.kp T.b_law_take .nil pass0 (pa_cons (pv 1) (pa_cons pe_int pa_nil))) pa_nil))) pa_nil)))
    (pss_cons (ps_for PassesOwn.never rfl (pi_list (pe_lst (pa_cons (pe_join pe_str (pv 2)) (pa_cons (pv 3) (pa_cons (pe_call G_law_spoilt (hr.mono (by omega)) rfl T.m_law_spoilt T.F_law_spoilt.kp T.b_law_spoilt .nil pass0 (pa_cons (pv 1) (pa_cons (pv 3) pa_nil))) (pa_cons (pe_call G_law_spoilt (hr.mono (by omega)) rfl T.m_law_spoilt T.F_law_spoilt.kp T.b_law_spoilt .nil pass0 (pa_cons (pv 1) (pa_cons (pe_op op_add_str (pe_op op_add_str pe_str (pv 3)) pe_str) pa_nil))) (pa_cons pe_str (pa_cons pe_str pa_nil)))))))) (pg_name (i := 4) sc_law.nd rfl (Or.inl rfl)) (pss_one (ps_if (pt_not (pt_val (pe_call G_law_is_right (hr.mono (by omega)) rfl T.m_law_is_right T.F_law_is_right.kp T.b_law_is_right .nil pass0 (pa_cons (pv 4) pa_nil)))) (pss_one (ps_ret pe_bl)) pss_nil)))
    (pss_cons (ps_set (i := 5) sc_law.nd rfl (Or.inl rfl) (pe_call G_law_take (hr.mono (by omega)) rfl T.m_law_take T.F_law_take.kp T.b_law_take .nil pass0 (pa_cons (pv 1) (pa_cons pe_int pa_nil))))
    (pss_cons (ps_set (i := 6) sc_law.nd rfl (Or.inl rfl) (pe_mkvBadText T.x_BadText hr (pa_cons (pv 5) pa_nil)))
    (pss_cons (ps_if (PW.pt (pw_or (pt_not (pt_val (pe_callB call_isV rfl T.n_isinstance bo_isinstance (pa_cons (pv 6) (pa_cons (pe_glob (v := .ref T.C_GlassError) rfl T.gn_GlassError rfl) pa_nil))))) (pw_or1 (pt_cmpR op_ne (pe_byvBadText T.x_BadText (pv 6)) (pv 5) (nomark _))))) (pss_one (ps_ret pe_bl)) pss_nil)
    (pss_cons (ps_if (pt_cmpR op_gt (pe_call G_law_take (hr.mono (by omega)) rfl T.m_law_take T.F_law_take.kp T.b_law_take .nil pass0 (pa_cons (pv 1) (pa_cons pe_int pa_nil))) pe_int (nomark _)) (pss_one (ps_ret pe_bl)) pss_nil)
    (pss_cons (ps_asg (pe_call G_law_deep (hr.mono (by omega)) rfl T.m_law_deep T.F_law_deep.kp T.b_law_deep .nil pass0 (pa_cons (pv 1) (pa_cons pe_str pa_nil))) (pg_unl (by rfl) (pgs_cons (pg_name (i := 9) sc_law.nd rfl (Or.inl rfl)) (pgs_cons (pg_name (i := 10) sc_law.nd rfl (Or.inl rfl)) (pgs_cons (pg_name (i := 11) sc_law.nd rfl (Or.inl rfl)) pgs_nil)))))
    (pss_cons (ps_set (i := 7) sc_law.nd rfl (Or.inl rfl) (pe_op op_add_str (pe_op op_add_str (pv 10) pe_str) (pv 11)))
    (pss_cons (ps_set (i := 8) sc_law.nd rfl (Or.inl rfl) (pe_call G_law_take (hr.mono (by omega)) rfl T.m_law_take T.F_law_take.kp T.b_law_take .nil pass0 (pa_cons (pv 1) (pa_cons (pe_callB call_len_str rfl T.n_len bo_len (pa_cons (pv 7) pa_nil)) pa_nil))))
    (pss_cons (ps_for PassesOwn.never rfl (pi_list (pe_lst (pa_cons (pe_slice sl_str (pv 7) po_none (po_some (pv 8))) (pa_cons (pe_op op_add_str (pe_op op_add_str (pe_slice sl_str (pv 7) po_none (po_some (pv 8))) pe_str) (pe_slice sl_str (pv 7) (po_some (pv 8)) po_none)) (pa_cons (pe_op op_add_str (pv 7) pe_str) (pa_cons (pe_op op_add_str (pv 7) pe_str) (pa_cons (pv 10) (pa_cons (pe_op op_add_str (pv 10) (pv 11)) pa_nil)))))))) (pg_name (i := 4) sc_law.nd rfl (Or.inl rfl)) (pss_one (ps_if (pt_not (pt_val (pe_call G_law_is_right (hr.mono (by omega)) rfl T.m_law_is_right T.F_law_is_right.kp T.b_law_is_right .nil pass0 (pa_cons (pv 4) pa_nil)))) (pss_one (ps_ret pe_bl)) pss_nil)))
    (pss_one (ps_ret pe_bl)))))))))))))), ?_⟩
  -- the hand
  refine ⟨_, rfl, a, ns, 500, rfl, hS, h63, by decide, fun d H1 ds s1 nd ed ld bd' => ⟨by show 2 ≤ sizeLine; decide, fun h nh => ?_⟩⟩
  have hh : Hnd (upd H1 h (.lst [.ref d, .int 0])) h d ds := ⟨⟨0, upd_same, Int.le_refl 0⟩, by rw [upd_ne (ne_of_none ed nh)]; exact ed, ne_of_none ed nh, fun x hx => (bd' x hx).1⟩
  generalize (upd H1 h (.lst [.ref d, .int 0])) = H2 at hh ⊢
  -- the pieces
  refine ⟨_, rfl, h, d, ds, 12, rfl, hh, pos_12, fun m H3 m0 m1 k3 hh3 => ⟨m, rfl, by omega, by omega, fun D nD => ?_⟩⟩
  refine lc_range (lo := 0) (n := m.toNat) (fun i H' => ∃ zs : List Str, Hnd H' h d ds ∧ H' D = some (.lst (zs.map V.str)) ∧ zs.length = i ∧ ∀ z ∈ zs, z.length ≤ 24)
    ⟨[], hh3.new nD, upd_same, rfl, fun _ h => absurd h List.not_mem_nil⟩ (fun i H5 hi hP => ?_) (fun H5 hP => ?_)
  · obtain ⟨zs, hh5, eD, lz, hz⟩ := hP
    have nDh : D ≠ h := hh3.neH nD
    have nDd : D ≠ d := hh3.neD nD
    refine ⟨rfl, _, rfl, h, d, ds, rfl, hh5, fun z H6 lz6 k6 hh6 => ?_⟩
    have eD6 : H6 D = some (.lst (zs.map V.str)) := k6 D _ nDh eD
    refine ⟨_, eD6, szl (by rw [List.length_map]; omega), zs ++ [z], hh6.put nDh nDd, by rw [upd_same]; simp, by simp [lz], fun u hu => ?_⟩
    rcases List.mem_append.mp hu with y | y
    · exact hz u y
    · rw [List.mem_singleton.mp y]; exact lz6
  obtain ⟨zs, hh5, eD, lz, hz⟩ := hP
  have nDh : D ≠ h := hh3.neH nD
  -- the value's text
  refine ⟨_, rfl, _, rfl, h, d, ds, 4, rfl, hh5, pos_4, fun r H6 ra rb k6 hh6 => ?_⟩
  obtain ⟨r, rfl⟩ := Int.eq_ofNat_of_zero_le ra
  refine ⟨h, d, ds, r, rfl, by omega, hh6, fun t v H7 ok dp szv hv k7 hh7 => ?_⟩
  have sz5 : t.size ≤ 1464 := by
    have := bd_mono (show r ≤ 3 by omega)
    have e : bd 3 = 1464 := by decide
    omega
  have hwr := wr_le ok
  refine ⟨t, v, rfl, hv, ok, by omega, by omega, fun z H8 s8 ez => ?_⟩
  have lzz : z.length ≤ 23424 := by rw [← slen, ez]; omega
  have eD8 : H8 D = some (.lst (zs.map V.str)) := s8 _ _ (k7 D _ nDh (k6 D _ nDh eD))
  have hh8 := hh7.same s8
  have ze : ("" : Str).length = 0 := by decide +kernel
  have zsp : (" " : Str).length = 1 := by decide +kernel
  have znl : ("\n" : Str).length = 1 := by decide +kernel
  have zsn : (" \n" : Str).length = 2 := by decide +kernel
  have hsum : (zs.map (·.length)).sum ≤ 264 := by
    have : ∀ (l : List Str), (∀ z ∈ l, z.length ≤ 24) → (l.map (·.length)).sum ≤ 24 * l.length := by
      intro l
      induction l with
      | nil => intro _; simp
      | cons x l ih =>
        intro h
        have h1 := h x List.mem_cons_self
        have h2 := ih fun z hz => h z (List.mem_cons_of_mem _ hz)
        simp only [List.map_cons, List.sum_cons, List.length_cons]; omega
    have := this zs hz
    omega
  have hjl : (Txt.join "" zs).length ≤ 264 := by
    rw [← slen, join_cps, ← slens]; exact hsum
  refine ⟨⟨_, rfl⟩, _, rfl, ("" : Str), D, zs, rfl, rfl, .inl (SqL.of eD8), by rw [ze]; omega, ?_⟩
  refine ⟨_, rfl, _, rfl, _, rfl, h, d, ds, z, rfl, hh8, by omega, fun s3 H9 ls3 k9 hh9 => ?_⟩
  refine ⟨_, rfl, _, rfl, _, _, rfl, rfl, sz (by rw [zsp]; omega), _, _, rfl, rfl, sz (by rw [scat, zsp, znl]; omega), h, d, ds, _, rfl, hh9, by rw [scat, scat, zsp, znl]; omega, fun s4 H10 ls4 k10 hh10 => ?_⟩
  rw [scat, scat, zsp, znl] at ls4
  refine ⟨by show 6 ≤ sizeLine; decide, fun L nL => ?_⟩
  refine ⟨L, rfl, ⟨_, SqL.of upd_same⟩, ?_⟩
  have hhL := hh10.new (o := .lst [.str (Txt.join "" zs), .str z, .str s3, .str s4, .str "", .str " \n"]) nL
  have hz6 : ∀ u ∈ [Txt.join "" zs, z, s3, s4, "", " \n"], u.length ≤ 390000 := by
    intro u hu
    simp only [List.mem_cons, List.not_mem_nil, or_false] at hu
    rcases hu with rfl | rfl | rfl | rfl | rfl | rfl <;> omega
  have eL : upd H10 L (.lst [.str (Txt.join "" zs), .str z, .str s3, .str s4, .str "", .str " \n"]) L = some (.lst ([Txt.join "" zs, z, s3, s4, "", " \n"].map V.str)) := upd_same
  obtain ⟨HL, hHL⟩ : ∃ HL, HL = upd H10 L (.lst [.str (Txt.join "" zs), .str z, .str s3, .str s4, .str "", .str " \n"]) := ⟨_, rfl⟩
  rw [← hHL] at hhL eL
  refine for_list (K := K) (a := L) (xs := [Txt.join "" zs, z, s3, s4, "", " \n"].map V.str) (fun i σ H' => ∃ y, σ = [some (.ref a), some (.ref h), some (.ref D), some (.str z), y, none, none, none, none, none, none, none, none] ∧ Same HL H')
    ⟨_, rfl, by rw [hHL]; exact Same.refl _⟩ (fun i σ H' _ h => by obtain ⟨_, _, s1⟩ := h; exact SqL.of (s1 _ _ eL)) (fun i x σ H11 hx h => ?_) (fun σ H11 h => ?_)
  · obtain ⟨y, rfl, s11⟩ := h
    rw [List.getElem?_map] at hx
    obtain ⟨u, hu, rfl⟩ := Option.map_eq_some_iff.mp hx
    have hm := List.mem_of_getElem? hu
    exact ⟨_, rfl, u, rfl, hz6 u hm, fun H12 s12 => ⟨_, rfl, _, rfl, s11.trans s12⟩⟩
  obtain ⟨y, rfl, s11⟩ := h
  have hh11 := hhL.same s11
  -- an error as a value
  refine ⟨_, rfl, h, d, ds, 99, rfl, hh11, pos_99, fun pl H12 pa pb k12 hh12 => ?_⟩
  refine ⟨_, rfl, _, rfl, fun dd e nd ne => ?_⟩
  refine ⟨_, rfl, e, T.C_BadText, dd, _, T.ec_BadText, upd_same, by rw [upd_ne (ne_of_none upd_same ne)]; exact upd_same, _, _, true, rfl, fun u r => r, T.ki_BadText_GlassError, _, rfl, ?_⟩
  refine ⟨_, rfl, e, dd, _, rfl, upd_same, by rw [upd_ne (ne_of_none upd_same ne)]; exact upd_same, _, rfl, rfl, _, rfl, ?_⟩
  rw [decide_eq_true rfl]
  have hhE := (hh12.new (o := .xd [("place", .int pl)]) nd).new (o := ExV T.C_BadText dd e) ne
  refine ⟨_, rfl, h, d, ds, 2, rfl, hhE, pos_2, fun r2 H13 r2a r2b k13 hh13 => ⟨_, _, rfl, rfl, _, rfl, ?_⟩⟩
  refine ite2 (fun _ => q H13) (fun _ => ?_)
  -- the deep one
  have oka : TOk (.w "a") := by
    simp only [TOk]
    exact ⟨97, [], by decide +kernel, by decide +kernel, by decide +kernel, by decide⟩
  have sza : (Tr.w "a").size = 1 := rfl
  refine ⟨_, rfl, h, d, ds, .w "a", .str "a", rfl, hh13, IsT.str, oka, by rw [sza]; decide, fun p t' v' l rr H14 k14 hh14 ep hv' ok' etx szt => ?_⟩
  rw [sza] at szt
  refine ⟨p, _, rfl, SqL.of ep, rfl, _, _, rfl, _, _, rfl, _, _, rfl, rfl, ?_⟩
  have hw2 := wr_le ok'
  have za : ("a" : Str).length = 1 := by decide +kernel
  have wa : wr (.w "a") = [97] := by simp only [wr]; decide +kernel
  have el : l.length + 1 + rr.length = (wr t').length := by
    have := congrArg List.length etx
    rw [List.length_append, List.length_append, slen, slen, wa] at this
    exact this
  have lwh : (l ++ "a" ++ rr).length = l.length + 1 + rr.length := by rw [scat, scat, za]
  refine ⟨_, rfl, _, _, rfl, rfl, sz (by rw [za]; omega), _, rfl, _, _, rfl, rfl, sz (by rw [scat, za]; omega), ?_⟩
  have hwl : (l ++ "a" ++ rr).length ≤ sizeLine := Nat.le_trans (show (l ++ "a" ++ rr).length ≤ 10000 by omega) (by decide)
  have cl : ∀ a b, (cutS (l ++ "a" ++ rr) a b).length ≤ (l ++ "a" ++ rr).length := fun a b => L2.cutS_length _ a b
  refine ⟨_, rfl, _, rfl, _, rfl, hwl, h, d, ds, _, rfl, hh14, by omega, fun at_ H15 at0 at1 k15 hh15 => ?_⟩
  have zmi : ("-" : Str).length = 1 := by decide +kernel
  have zcl : (")" : Str).length = 1 := by decide +kernel
  have zsx : (" x" : Str).length = 2 := by decide +kernel
  generalize hwh : l ++ "a" ++ rr = wh at *
  have c1 := cl none (some at_)
  have c2 := cl (some at_) none
  refine ⟨_, rfl, _, rfl, _, rfl, wh, rfl, hwl, ?_⟩
  refine ⟨_, rfl, _, rfl, _, rfl, wh, rfl, hwl, _, _, rfl, rfl, sz (by rw [zmi]; omega), _, rfl, _, rfl, _, rfl, wh, rfl, hwl, _, _, rfl, rfl, sz (by rw [scat, zmi]; omega), ?_⟩
  refine ⟨_, rfl, _, _, rfl, rfl, sz (by rw [zcl]; omega), ?_⟩
  refine ⟨_, rfl, _, _, rfl, rfl, sz (by rw [zsx]; omega), ?_⟩
  refine ⟨_, rfl, ?_⟩
  refine ⟨_, rfl, _, rfl, _, _, rfl, rfl, sz (by omega), ?_⟩
  refine ⟨by show 6 ≤ sizeLine; decide, fun L2 nL2 => ?_⟩
  refine ⟨L2, rfl, ⟨_, SqL.of upd_same⟩, ?_⟩
  have hy6 : ∀ u ∈ [cutS wh none (some at_), cutS wh none (some at_) ++ "-" ++ cutS wh (some at_) none, wh ++ ")", wh ++ " x", l, l ++ rr], u.length ≤ 390000 := by
    intro u hu
    simp only [List.mem_cons, List.not_mem_nil, or_false] at hu
    rcases hu with rfl | rfl | rfl | rfl | rfl | rfl
    · omega
    · rw [scat, scat, zmi]; omega
    · rw [scat, zcl]; omega
    · rw [scat, zsx]; omega
    · omega
    · rw [scat]; omega
  have eL2 : upd H15 L2 (.lst ([cutS wh none (some at_), cutS wh none (some at_) ++ "-" ++ cutS wh (some at_) none, wh ++ ")", wh ++ " x", l, l ++ rr].map V.str)) L2 = some (.lst ([cutS wh none (some at_), cutS wh none (some at_) ++ "-" ++ cutS wh (some at_) none, wh ++ ")", wh ++ " x", l, l ++ rr].map V.str)) := upd_same
  refine for_list (K := K) (a := L2) (xs := [cutS wh none (some at_), cutS wh none (some at_) ++ "-" ++ cutS wh (some at_) none, wh ++ ")", wh ++ " x", l, l ++ rr].map V.str)
    (fun i σ H' => ∃ y, σ = [some (.ref a), some (.ref h), some (.ref D), some (.str z), y, some (.int pl), some (.ref e), some (.str wh), some (.int at_), some v', some (.str l), some (.str rr), none] ∧ Same (upd H15 L2 (.lst ([cutS wh none (some at_), cutS wh none (some at_) ++ "-" ++ cutS wh (some at_) none, wh ++ ")", wh ++ " x", l, l ++ rr].map V.str))) H')
    ⟨_, rfl, Same.refl _⟩ (fun i σ H' _ h => by obtain ⟨_, _, s1⟩ := h; exact SqL.of (s1 _ _ eL2)) (fun i x σ H16 hx h => ?_) (fun σ H16 h => ?_)
  · obtain ⟨y, rfl, s16⟩ := h
    rw [List.getElem?_map] at hx
    obtain ⟨u, hu, rfl⟩ := Option.map_eq_some_iff.mp hx
    have hm := List.mem_of_getElem? hu
    exact ⟨_, rfl, u, rfl, hy6 u hm, fun H17 s17 => ⟨_, rfl, _, rfl, s16.trans s17⟩⟩
  exact q H16

theorem law_end {l : PySem.W.OpenLaw} {w : World} {K : PySem.W.Frag} {mg : Str → Option Value} {fa : Addr} (T : Top K mg) (hmg : mg "law" = some (.ref fa)) :
    ∃ fd : FuncData, (∀ (s : Shared) (u : Value), BindsTo s fd ⟨[u], []⟩ [("_law_script", u)]) ∧ ∀ base : Heap, K.In base → base.Ns mainGlobals mg → FnOk l.prog w K mg base CX0 8 fa fd ["_law_script"] (spLaw K) := by
  have e := hmg.symm.trans T.m_law
  cases e
  refine ⟨T.d_law, fun s v => ?_, fun base _ _ => ok_law T⟩
  obtain ⟨oc, od, kV, doc, pm, an, cdv, ct, osl, e, lk, hcd⟩ := T.F_law.ex
  rw [e]
  exact .of_eq rfl

theorem walk {l : PySem.W.OpenLaw} {q : Program} {loose : List Str} {XP : (Str → Option Value) → Heap → Prop} {YP : World → Heap → Prop} {d : DefRec} {K : Params → PySem.W.Frag} (hn : l.most = some 63) (hdf : d.params.defaults = [])
    (hY : ∀ (w : World) (h : Heap), YP w h → (K w.params).In h)
    (F : ∀ (w : World) (mg : Str → Option Value) (fa : Addr) (h : Heap), (K w.params).In h → h.Ns mainGlobals mg → mg d.name = some (.ref fa) →
      ∃ fd : FuncData, (∀ (s : Shared) (u : Value), BindsTo s fd ⟨[u], []⟩ [("_law_script", u)]) ∧ ∀ base : Heap, (K w.params).In base → base.Ns mainGlobals mg → FnOk l.prog w (K w.params) mg base CX0 8 fa fd ["_law_script"] (spLaw (K w.params))) :
    PySem.W.WalkO q loose XP YP l.row.toRowW d [] (fun f vs => PySem.call f vs) :=
  L2.walk_of (n := 63) (k := 8) (x := "_law_script") (CX := fun _ => CX0) (sp := fun w => spLaw (K w.params)) hn (by decide) hdf ⟨rfl, by decide, by decide⟩ hY F (fun _ _ a ns hl _ hS => ⟨a, ns, rfl, hS, hl, fun _ => rfl⟩) fun _ _ _ _ _ z => z
end K2
open PySem PySem.W PyProof.Rows
set_option maxRecDepth 100000 in
set_option maxHeartbeats 0 in
theorem PySem.Challenge.cw_ownglass_k02_the_place_where_a_text_is_w_holds : PySem.Challenge.rw_ownglass_k02_the_place_where_a_text_is_w.Holds := by
  w_on; o_law; k_head; (case hw => w_witness2)
  k_fill
  refine K2.walk (l := PySem.Challenge.rw_ownglass_k02_the_place_where_a_text_is_w) rfl rfl (fun w h Y => PySem.W.kIn_of Y) ?F
  case F =>
    intro w mg fa h KX G hmg
    refine K2.law_end ?T hmg
    refine' K2.all_mk KX G ?qa0 ?ql0 ?qc0 ?qk0 ?qa1 ?ql1 ?qc1 ?qk1 ?qa2 ?ql2 ?qc2 ?qk2 ?qa3 ?ql3 ?qc3 ?qk3 ?qa4 ?ql4 ?qc4 ?qk4 ?qa5 ?ql5 ?qc5 ?qk5 ?qa6 ?ql6 ?qc6 ?qk6 ?qa7 ?ql7 ?qc7 ?qk7 ?qa8 ?ql8 ?qc8 ?qk8 ?qa9 ?ql9 ?qc9 ?qk9 ?qa10 ?ql10 ?qc10 ?qk10 ?qa11 ?ql11 ?qc11 ?qk11 ?qa12 ?ql12 ?qc12 ?qk12 ?qa13 ?ql13 ?qc13 ?qk13 ?qa14 ?ql14 ?qc14 ?qk14 ?qa15 ?ql15 ?qc15 ?qk15 ?qz0 ?qz1 ?qz2 ?qz3 ?qz4 ?qz5 ?qz6 ?qz7 ?qz8 ?qg0 ?qg1 ?qg2 ?qg3 ?qAZ0 ?qBZ0 ?qCZ0 ?qDZ0 ?qEZ0 ?qFZ0 ?qGZ0 ?qHZ0 ?qIZ0 ?qJZ0 ?qKZ0 ?qLZ0 ?qMZ0 ?qNZ0 ?qOZ0 ?qPZ0 ?rB0 ?rC0 ?rD0 ?rE0 ?rA1 ?rB1 ?rC1 ?rD1 ?rE1 ?rA2 ?rB2 ?rC2 ?rD2 ?rE2 ?rF0_0 ?rF0_1 ?rF0_2 ?rF0_3 ?rF0_4 ?rF0_5 ?rF0_6 ?rF0_7 ?rF0_8 ?rG0 ?rG1 ?rG2 ?rG3
    (case qa0 => k_is)
    (case ql0 => k_is)
    (case qc0 => k_is)
    (case qk0 => k_is)
    (case qa1 => k_is)
    (case ql1 => k_is)
    (case qc1 => k_is)
    (case qk1 => k_is)
    (case qa2 => k_is)
    (case ql2 => k_is)
    (case qc2 => k_is)
    (case qk2 => k_is)
    (case qa3 => k_is)
    (case ql3 => k_is)
    (case qc3 => k_is)
    (case qk3 => k_is)
    (case qa4 => k_is)
    (case ql4 => k_is)
    (case qc4 => k_is)
    (case qk4 => k_is)
    (case qa5 => k_is)
    (case ql5 => k_is)
    (case qc5 => k_is)
    (case qk5 => k_is)
    (case qa6 => k_is)
    (case ql6 => k_is)
    (case qc6 => k_is)
    (case qk6 => k_is)
    (case qa7 => k_is)
    (case ql7 => k_is)
    (case qc7 => k_is)
    (case qk7 => k_is)
    (case qa8 => k_is)
    (case ql8 => k_is)
    (case qc8 => k_is)
    (case qk8 => k_is)
    (case qa9 => k_is)
    (case ql9 => k_is)
    (case qc9 => k_is)
    (case qk9 => k_is)
    (case qa10 => k_is)
    (case ql10 => k_is)
    (case qc10 => k_is)
    (case qk10 => k_is)
    (case qa11 => k_is)
    (case ql11 => k_is)
    (case qc11 => k_is)
    (case qk11 => k_is)
    (case qa12 => k_is)
    (case ql12 => k_is)
    (case qc12 => k_is)
    (case qk12 => k_is)
    (case qa13 => k_is)
    (case ql13 => k_is)
    (case qc13 => k_is)
    (case qk13 => k_is)
    (case qa14 => k_is)
    (case ql14 => k_is)
    (case qc14 => k_is)
    (case qk14 => k_is)
    (case qa15 => k_is)
    (case ql15 => k_is)
    (case qc15 => k_is)
    (case qk15 => k_is)
    (case qz0 => k_is)
    (case qz1 => k_is)
    (case qz2 => k_is)
    (case qz3 => k_is)
    (case qz4 => k_is)
    (case qz5 => k_is)
    (case qz6 => k_is)
    (case qz7 => k_is)
    (case qz8 => k_is)
    (case qg0 => k_is)
    (case qg1 => k_is)
    (case qg2 => k_is)
    (case qg3 => k_is)
    (case qAZ0 => k_is)
    (case qBZ0 => k_is)
    (case qCZ0 => k_is)
    (case qDZ0 => k_is)
    (case qEZ0 => k_is)
    (case qFZ0 => k_is)
    (case qGZ0 => k_is)
    (case qHZ0 => k_is)
    (case qIZ0 => k_is)
    (case qJZ0 => k_is)
    (case qKZ0 => k_is)
    (case qLZ0 => k_is)
    (case qMZ0 => k_is)
    (case qNZ0 => k_is)
    (case qOZ0 => k_is)
    (case qPZ0 => k_is)
    (case rB0 => k_is)
    (case rC0 => k_is)
    (case rD0 => k_is)
    (case rE0 => k_is)
    (case rA1 => k_is)
    (case rB1 => k_is)
    (case rC1 => k_is)
    (case rD1 => k_is)
    (case rE1 => k_is)
    (case rA2 => k_is)
    (case rB2 => k_is)
    (case rC2 => k_is)
    (case rD2 => k_is)
    (case rE2 => k_is)
    (case rF0_0 => k_is)
    (case rF0_1 => k_is)
    (case rF0_2 => k_is)
    (case rF0_3 => k_is)
    (case rF0_4 => k_is)
    (case rF0_5 => k_is)
    (case rF0_6 => k_is)
    (case rF0_7 => k_is)
    (case rF0_8 => k_is)
    (case rG0 => k_is)
    (case rG1 => k_is)
    (case rG2 => k_is)
    (case rG3 => k_is)
#print axioms PySem.Challenge.cw_ownglass_k02_the_place_where_a_text_is_w_holds

