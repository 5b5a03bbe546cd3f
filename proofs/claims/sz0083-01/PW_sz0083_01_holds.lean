import PyProof.Rows.All
import Wide.All
import OpenK.AllK
import Wide.FinOn
import PySem.Challenge.RW_sz0083_01
open PySem PySem.W PyProof.Rows
set_option Elab.async false
set_option maxRecDepth 100000
set_option maxHeartbeats 8000000
set_option linter.unusedVariables false
namespace Mine
local macro_rules | `(tactic| walk_at $s:str) => do let k := Lean.Syntax.mkStrLit ("m " ++ s.getString); `(tactic| k_extra $k)
section
local macro_rules | `(tactic| o_head $H) => `(tactic| assumption)
theorem kk (h : PySem.Challenge.rw_sz0083_01.row.Holds) : PySem.Challenge.rw_sz0083_01.row.Holds := by
  k_head
end
theorem fill_all : kk.heap_1 = kk.heap_1 ∧ PySem.Challenge.rw_sz0083_01 = PySem.Challenge.rw_sz0083_01 := by
  w_on
  k_fill
  exact ⟨rfl, rfl⟩
section
variable {p : Program} {loose : List Str} {mean : ExcName → Option Value} {mg mb : Str → Option Value} {w : World} {dp un : Nat} {gd : Option (List Code)} {cn : Str} {cs : Scope} {L a : Addr} {ccd : Value} {cl : List (Str × Addr)} {outer : List Env} {A₀ : Around} {base h₀ : Heap} {m : Str → Option Value} {s : Shared} {Q E : Value → Shared → Prop} {news : List (Addr × Obj)} {upd : Obj → List (Addr × Obj)}
noncomputable abbrev ent (w : World) (n : Str) (k : Tok) (v : Value) : DictEntry := ⟨PyData.keyHash w.params n, .str n k, v⟩
noncomputable abbrev rdr (w : World) (k1 k2 k3 k4 k5 : Tok) (tx p g b d : Value) : Obj :=
  dictOf [ent w (Str.ofString "text") k1 tx, ent w (Str.ofString "at") k2 p, ent w (Str.ofString "groups") k3 g, ent w (Str.ofString "farthest_back") k4 b, ent w (Str.ofString "depth") k5 d] 5
theorem Upd_use {h₀ h : Heap} {L dx : Addr} {o : Obj} {news : List (Addr × Obj)} {upd : Obj → List (Addr × Obj)} (U : ∀ o', Upd dx o o' news (upd o')) (N : News h₀ L h news) :
    ∃ R, (∀ q ∈ R, q.1 ≠ dx) ∧ (∀ q ∈ news, q = (dx, o) ∨ q ∈ R) ∧ News h₀ L h ((dx, o) :: R) ∧ ∀ h' o' tl, News h₀ L h' (tl ++ (dx, o') :: R) → News h₀ L h' (tl ++ upd o') := by
  obtain ⟨pre, post, e1, -, h1, h2⟩ := (U o).split
  refine ⟨pre ++ post, ?_, ?_, ?_, ?_⟩
  · intro q hq
    rcases List.mem_append.mp hq with hq | hq
    · exact h1 q hq
    · exact h2 q hq
  · intro q hq
    rw [e1] at hq
    rcases List.mem_append.mp hq with hq | hq
    · exact .inr (List.mem_append.mpr (.inl hq))
    · rcases List.mem_cons.mp hq with hq | hq
      · exact .inl hq
      · exact .inr (List.mem_append.mpr (.inr hq))
  · intro q hq
    refine N q ?_
    rw [e1]
    rcases List.mem_cons.mp hq with rfl | hq
    · exact List.mem_append.mpr (.inr (.head _))
    · rcases List.mem_append.mp hq with hq | hq
      · exact List.mem_append.mpr (.inl hq)
      · exact List.mem_append.mpr (.inr (.tail _ hq))
  · intro h' o' tl N' q hq
    obtain ⟨pre', post', e1', e2', h1', h2'⟩ := (U o').split
    have e : pre' = pre ∧ post' = post := by
      rw [e1] at e1'
      clear e1 e2' N' hq N U
      induction pre generalizing pre' with
      | nil =>
        cases pre' with
        | nil => simp only [List.nil_append, List.cons.injEq] at e1'; exact ⟨rfl, e1'.2.symm⟩
        | cons a r =>
          simp only [List.nil_append, List.cons_append, List.cons.injEq] at e1'
          exact absurd (by rw [← e1'.1]) (h1' a (.head _))
      | cons a r ih =>
        cases pre' with
        | nil =>
          simp only [List.nil_append, List.cons_append, List.cons.injEq] at e1'
          exact absurd (by rw [e1'.1]) (h1 a (.head _))
        | cons a' r' =>
          simp only [List.cons_append, List.cons.injEq] at e1'
          obtain ⟨z1, z2⟩ := ih (fun p hp => h1 p (.tail _ hp)) r' e1'.2 (fun p hp => h1' p (.tail _ hp))
          exact ⟨by rw [z1, e1'.1], z2⟩
    obtain ⟨rfl, rfl⟩ := e
    refine N' q ?_
    rcases List.mem_append.mp hq with hq | hq
    · exact List.mem_append.mpr (.inl hq)
    · rw [e2'] at hq
      refine List.mem_append.mpr (.inr ?_)
      rcases List.mem_append.mp hq with hq | hq
      · exact .tail _ (List.mem_append.mpr (.inl hq))
      · rcases List.mem_cons.mp hq with rfl | hq
        · exact .head _
        · exact .tail _ (List.mem_append.mpr (.inr hq))
/-- what stands in the text from the place i on -/
noncomputable def Rest (tx : Str) (i : Int) (l : List Nat) : Prop := 0 ≤ i ∧ i ≤ 1000 ∧ tx.length ≤ 1000 ∧ tx.cps.toList.drop i.toNat = l
theorem slice_any {x : Str} {i j : Int} (h0 : 0 ≤ i) (h1 : i ≤ j) : Txt.slice x (some i) (some j) = ⟨((x.cps.toList.drop i.toNat).take (j - i).toNat).toArray⟩ := by
  have hl : x.cps.toList.length = x.length := by simp [PySem.Str.length]
  have e : Txt.slice x (some i) (some j) = Txt.slice x (some (min i x.length)) (some (min j x.length)) := by
    have a1 : ¬ i < 0 := Int.not_lt.mpr h0
    have a2 : ¬ j < 0 := Int.not_lt.mpr (Int.le_trans h0 h1)
    have a3 : ¬ min i (x.length : Int) < 0 := Int.not_lt.mpr (Int.le_min.mpr ⟨h0, Int.natCast_nonneg _⟩)
    have a4 : ¬ min j (x.length : Int) < 0 := Int.not_lt.mpr (Int.le_min.mpr ⟨Int.le_trans h0 h1, Int.natCast_nonneg _⟩)
    have b1 : max 0 (min i (x.length : Int)) = max 0 (min (min i (x.length : Int)) (x.length : Int)) := by rw [Int.min_assoc, Int.min_self]
    have b2 : max 0 (min j (x.length : Int)) = max 0 (min (min j (x.length : Int)) (x.length : Int)) := by rw [Int.min_assoc, Int.min_self]
    have q : PySem.Builtin.Str.strSliceIndices (some i) (some j) 1 x.length = PySem.Builtin.Str.strSliceIndices (some (min i x.length)) (some (min j x.length)) 1 x.length := by
      simp only [PySem.Builtin.Str.strSliceIndices, a1, a2, a3, a4, if_false, show (1 : Int) > 0 by decide, if_true, ← b1, ← b2]
    unfold Txt.slice
    rw [q]
  rw [e, eq_of_beq (slice_closes (x := x) (i := min i x.length) (j := min j x.length) ⟨Int.le_min.mpr ⟨h0, Int.natCast_nonneg _⟩, Int.le_min.mpr ⟨Int.le_trans (Int.min_le_left _ _) h1, Int.min_le_right _ _⟩, by rw [hl]; exact Int.min_le_right _ _⟩)]
  congr 2
  rcases Int.le_total i x.length with h | h
  · rw [Int.min_eq_left h]
    rcases Int.le_total j x.length with h' | h'
    · rw [Int.min_eq_left h']
    · rw [Int.min_eq_right h', List.take_of_length_le (l := List.drop i.toNat x.cps.toList) (i := (j - i).toNat) (by rw [List.length_drop]; omega), List.take_of_length_le (by rw [List.length_drop]; omega)]
  · rw [Int.min_eq_right h, Int.min_eq_right (Int.le_trans h h1), List.drop_eq_nil_of_le (as := x.cps.toList) (i := i.toNat) (by omega), List.drop_eq_nil_of_le (by omega)]
    simp
theorem Rest.slice {tx : Str} {i : Int} {l : List Nat} (h : Rest tx i l) (k : Nat) : Txt.slice tx (some i) (some (i + k)) = ⟨(l.take k).toArray⟩ := by
  obtain ⟨h0, _, _, rfl⟩ := h
  rw [slice_any h0 (by omega)]
  congr 3
  omega
theorem Rest.next {tx : Str} {i : Int} {c : Nat} {l : List Nat} (h : Rest tx i (c :: l)) : Rest tx (i + 1) l := by
  obtain ⟨h0, h1, h2, h3⟩ := h
  have hl : i.toNat < tx.cps.toList.length := by
    rcases Nat.lt_or_ge i.toNat tx.cps.toList.length with h | h
    · exact h
    · rw [List.drop_eq_nil_of_le h] at h3; cases h3
  have : tx.cps.toList.length = tx.length := by simp [PySem.Str.length]
  refine ⟨by omega, by omega, h2, ?_⟩
  rw [show (i + 1).toNat = i.toNat + 1 by omega, ← List.tail_drop, h3]; rfl
theorem News_drop {h₀ h : Heap} {L : Addr} {q : Addr × Obj} {l : List (Addr × Obj)} (N : News h₀ L h (q :: l)) : News h₀ L h l := fun r hr => N r (.tail _ hr)
theorem News1 {h₀ h : Heap} {L : Addr} {b : Addr × Obj} {l R : List (Addr × Obj)} (N : News h₀ L h l) (hb : b ∈ l) (hR : ∀ q ∈ R, q ∈ l) : News h₀ L h ([] ++ b :: R) := fun r hr => by
  rcases List.mem_cons.mp hr with rfl | hr
  · exact N _ hb
  · exact N r (hR r hr)
theorem News2 {h₀ h : Heap} {L : Addr} {a b : Addr × Obj} {l R : List (Addr × Obj)} (N : News h₀ L h l) (ha : a ∈ l) (hb : b ∈ l) (hR : ∀ q ∈ R, q ∈ l) : News h₀ L h ([a] ++ b :: R) := fun r hr => by
  rcases List.mem_cons.mp hr with rfl | hr
  · exact N _ ha
  rcases List.mem_cons.mp hr with rfl | hr
  · exact N _ hb
  · exact N r (hR r hr)
theorem Upd_use2 {h₀ h : Heap} {L dx : Addr} {o : Obj} {news : List (Addr × Obj)} {upd : Obj → List (Addr × Obj)} (U : ∀ o', Upd dx o o' news (upd o')) (N : News h₀ L h news) :
    ∃ R, (∀ q ∈ R, q.1 ≠ dx) ∧ (∀ q ∈ news, q = (dx, o) ∨ q ∈ R) ∧ News h₀ L h ((dx, o) :: R) ∧ ∀ h' o' tl, News h₀ L h' ((dx, o') :: (R ++ tl)) → News h₀ L h' (upd o' ++ tl) := by
  obtain ⟨R, h1, h2, h3, h4⟩ := Upd_use U N
  refine ⟨R, h1, h2, h3, fun h' o' tl N' q hq => ?_⟩
  rcases List.mem_append.mp hq with hq | hq
  · have : News h₀ L h' ([] ++ (dx, o') :: R) := fun r hr => N' r (by
      rcases List.mem_cons.mp hr with rfl | hr
      · exact .head _
      · exact .tail _ (List.mem_append_left _ hr))
    exact h4 h' o' [] this q hq
  · exact N' q (.tail _ (List.mem_append_right _ hq))
theorem News3 {h₀ h : Heap} {L : Addr} {b : Addr × Obj} {l R tl : List (Addr × Obj)} (N : News h₀ L h l) (hb : b ∈ l) (hR : ∀ q ∈ R, q ∈ l) (ht : ∀ q ∈ tl, q ∈ l) : News h₀ L h (b :: (R ++ tl)) := fun r hr => by
  rcases List.mem_cons.mp hr with rfl | hr
  · exact N _ hb
  rcases List.mem_append.mp hr with hr | hr
  · exact N r (hR r hr)
  · exact N r (ht r hr)
theorem ord_ne {d : Addr} {o : Obj} {l tl : List (Addr × Obj)} (h : ∀ q ∈ l, ∀ p ∈ tl, q.1 < p.1) (hm : (d, o) ∈ l) : ∀ p ∈ tl, p.1 ≠ d := fun p hp => Nat.ne_of_gt (h _ hm p hp)
theorem lt_ne {d : Addr} {l : List (Addr × Obj)} (h : AllLt d l) : ∀ p ∈ l, p.1 ≠ d := fun p hp => Nat.ne_of_lt (ktn_ltOf h p hp)
theorem allLt_app {d : Addr} {l tl : List (Addr × Obj)} (h : AllLt d (l ++ tl)) : AllLt d l ∧ AllLt d tl := ⟨allLt_of fun q hq => ktn_ltOf h q (List.mem_append_left _ hq), allLt_of fun q hq => ktn_ltOf h q (List.mem_append_right _ hq)⟩
noncomputable abbrev tup (vs : List Value) : Obj := { cls := .type "tuple", data := .seq vs.toArray }
inductive Tr where
  | chr
  | rep (least : Int) (most : Option Int) (lazy : Bool) (t : Tr) (first behind : Int)
  | grp (num : Option Int) (t : Tr)
  | seq1 (t : Tr)
  | seq2 (t u : Tr)
inductive OptV : Value → Option Int → Prop where
  | none : OptV .none .none
  | some {i : Int} {t : Tok} : OptV (.int i t) (.some i)
inductive TreeIn (R : List (Addr × Obj)) : Value → Tr → Prop where
  | chr {y : Addr} {k k' : Tok} : (y, tup [.str (Str.ofString "char") k, .int 97 k']) ∈ R → TreeIn R (.ref y) .chr
  | rep {y : Addr} {k k1 k2 k3 : Tok} {mv v : Value} {least : Int} {most : Option Int} {lazy : Bool} {t : Tr} {first behind : Int} : (y, tup [.str (Str.ofString "repeat") k, .int least k1, mv, .bool lazy, v, .int first k2, .int behind k3]) ∈ R → OptV mv most → TreeIn R v t → TreeIn R (.ref y) (.rep least most lazy t first behind)
  | grp {y : Addr} {k : Tok} {mv v : Value} {num : Option Int} {t : Tr} : (y, tup [.str (Str.ofString "group") k, mv, v]) ∈ R → OptV mv num → TreeIn R v t → TreeIn R (.ref y) (.grp num t)
  | seq1 {y z : Addr} {k : Tok} {v : Value} {t : Tr} : (y, tup [.str (Str.ofString "seq") k, .ref z]) ∈ R → (z, tup [v]) ∈ R → TreeIn R v t → TreeIn R (.ref y) (.seq1 t)
  | seq2 {y z : Addr} {k : Tok} {v v' : Value} {t u : Tr} : (y, tup [.str (Str.ofString "seq") k, .ref z]) ∈ R → (z, tup [v, v']) ∈ R → TreeIn R v t → TreeIn R v' u → TreeIn R (.ref y) (.seq2 t u)
theorem TreeIn.mono {R R' : List (Addr × Obj)} {v : Value} {t : Tr} (h : TreeIn R v t) (hs : ∀ q ∈ R, q ∈ R') : TreeIn R' v t := by
  induction h with
  | chr h => exact .chr (hs _ h)
  | rep h o _ ih => exact .rep (hs _ h) o ih
  | grp h o _ ih => exact .grp (hs _ h) o ih
  | seq1 h h2 _ ih => exact .seq1 (hs _ h) (hs _ h2) ih
  | seq2 h h2 _ _ ih ih2 => exact .seq2 (hs _ h) (hs _ h2) ih ih2
/-- a reader's method from the place i and g groups to i' and g', handing back the tree T -/
noncomputable def RSpec (w : World) (f : Addr) (n : Nat) (tx : Str) (d i g i' g' : Int) (T : Tr) : Prop :=
  ∀ (p : Program) (loose : List Str) (mean : ExcName → Option Value) (mg mb : Str → Option Value) (dp un : Nat) (gd : Option (List Code)) (cn : Str) (cs : Scope) (L a : Addr) (ccd : Value) (cl : List (Str × Addr)) (outer : List Env) (A₀ : Around) (base h₀ : Heap) (m : Str → Option Value) (s : Shared) (Q E : Value → Shared → Prop) (news : List (Addr × Obj)) (upd : Obj → List (Addr × Obj)) (x dx : Addr) (k1 k2 k3 k4 k5 t1 t2 t3 t4 : Tok) (b : Value),
    Below A₀ base outer h₀ → Fr h₀ L s.heap m → (kk.heap_1 w.params).In h₀ → Top p loose mean mg mb h₀ → cs.kind = .function → dp + n < recursionLimit → un + 8 * n < cLine → News h₀ L s.heap news → (x, instObj 594 dx) ∈ news →
    (∀ o', Upd dx (rdr w k1 k2 k3 k4 k5 (.str tx t1) (.int i t2) (.int g t3) b (.int d t4)) o' news (upd o')) →
    (∀ h' tk t2' t3' t4' v tl, Fr h₀ L h' m → News h₀ L h' (upd (rdr w k1 k2 k3 k4 k5 (.str tx t1) (.int i' t2') (.int g' t3') b (.int d t4')) ++ tl) → (∀ q ∈ news, ∀ p ∈ tl, q.1 < p.1) → TreeIn tl v T → Q v { s with heap := h', toks := tk }) →
    wpAny (model PySem.Challenge.rw_sz0083_01.row.prog w) (ktrTop dp un gd cn cs L a ccd cl outer) (call (.ref f) [.ref x]) Q E s
theorem News_sub {h₀ h : Heap} {L : Addr} {l l' : List (Addr × Obj)} (N : News h₀ L h l) (hs : ∀ q ∈ l', q ∈ l) : News h₀ L h l' := fun r hr => N r (hs r hr)
theorem rm0 {d n R : Nat} (h : d + n < R) : d < R := Nat.lt_of_le_of_lt (Nat.le_add_right d n) h
theorem rm1 {d n R a : Nat} (h : d + n < R) (e : Nat.ble a n = true) : d + a < R := Nat.lt_of_le_of_lt (Nat.add_le_add_left (Nat.le_of_ble_eq_true e) d) h
theorem rm2 {d n R a b : Nat} (h : d + n < R) (e : Nat.ble (a + b) n = true) : d + a + b < R := Nat.add_assoc d a b ▸ rm1 h e
theorem rm3 {d n R a b c : Nat} (h : d + n < R) (e : Nat.ble (a + b + c) n = true) : d + a + b + c < R := Nat.add_assoc d a b ▸ rm2 h e
theorem rn2 {d n k c R a b : Nat} (h : d + (n + k) < R) (h2 : c ≤ n) (e : Nat.ble (a + b) c = true) : d + a + b < R := Nat.add_assoc d a b ▸ Nat.lt_of_le_of_lt (Nat.add_le_add_left (Nat.le_trans (Nat.le_of_ble_eq_true e) (Nat.le_trans h2 (Nat.le_add_right n k))) d) h
theorem ne_gt {a b : Addr} (h : b < a) : a ≠ b := Nat.ne_of_gt h
theorem ne_lt {a b : Addr} (h : a < b) : a ≠ b := Nat.ne_of_lt h
theorem cl_lt {a b : Nat} (h : Nat.ble (a + 1) b = true) : a < b := Nat.le_of_ble_eq_true h
theorem eq_le {a b c n : Nat} (e : a = b) (h : b < c) (h2 : Nat.ble c n = true) : a ≤ n := e ▸ Nat.le_trans (Nat.le_of_lt h) (Nat.le_of_ble_eq_true h2)
theorem eq_lt {a b c n : Nat} (e : a = b) (h : b < c) (h2 : Nat.ble c n = true) : a < n := e ▸ Nat.lt_of_lt_of_le h (Nat.le_of_ble_eq_true h2)
theorem eq_ltt {a b c : Nat} (e : a = b) (h : c < b) : c < a := e ▸ h
noncomputable def Halt (P : Prop) : Prop := P
theorem Halt.go {P : Prop} (h : Halt P) : P := h
theorem Halt.on {P : Prop} (h : P) : Halt P := h
theorem mul_up (c t k : Nat) : c * k ≤ c * (t + k) := Nat.mul_le_mul_left c (Nat.le_add_left k t)
theorem rq1 {d c t k R a : Nat} (h : d + c * (t + k) < R) (e : Nat.ble a (c * k) = true) : d + a < R := Nat.lt_of_le_of_lt (Nat.add_le_add_left (Nat.le_trans (Nat.le_of_ble_eq_true e) (mul_up c t k)) d) h
theorem rq2 {d c t k R a b : Nat} (h : d + c * (t + k) < R) (e : Nat.ble (a + b) (c * k) = true) : d + a + b < R := Nat.add_assoc d a b ▸ rq1 h e
theorem rq3 {d c t k R a b f : Nat} (h : d + c * (t + k) < R) (e : Nat.ble (a + b + f) (c * k) = true) : d + a + b + f < R := Nat.add_assoc d a b ▸ rq2 h e
theorem rs1 {d c t k R a : Nat} (h : d + c * (t + k) < R) (e : Nat.ble a (c * k) = true) : d + a + c * t < R := by
  rw [Nat.mul_add] at h; have := Nat.le_of_ble_eq_true e; omega
theorem rs2 {d c t k R a b : Nat} (h : d + c * (t + k) < R) (e : Nat.ble (a + b) (c * k) = true) : d + a + b + c * t < R := Nat.add_assoc d a b ▸ rs1 h e
theorem rt1 {d c t k j R a : Nat} (h : d + c * (t + k) < R) (e : Nat.ble (a + c * j) (c * k) = true) : d + a + c * (t + j) < R := by
  rw [Nat.mul_add] at *; have := Nat.le_of_ble_eq_true e; omega
theorem ru2 {d c n k l R a b : Nat} (h : d + c * (n + k) < R) (h2 : l ≤ n) (e : Nat.ble (a + b) (c * l) = true) : d + a + b < R := by
  have := Nat.le_of_ble_eq_true e
  have h3 : c * l ≤ c * (n + k) := Nat.mul_le_mul_left c (Nat.le_trans h2 (Nat.le_add_right n k))
  omega
theorem rv1 {d n k R a : Nat} (h : d + (n + k) < R) (e : Nat.ble a k = true) : d + a + n < R := by have := Nat.le_of_ble_eq_true e; omega
theorem lt_and {a b : Addr} {c : Prop} (h : a < b ∧ c) : a < b := h.1
theorem tup_at {prog : Program} {A : Around} {value slice : PySem.Expr} {t : Addr} {vs : List Value} {k : Int} {u : Tok} {x : Value} (N : News h₀ L s.heap news) (hm : (t, tup vs) ∈ news) (h0 : 0 ≤ k) (hf : vs.length ≤ 1000) (hx : vs[k.toNat]? = some x) (h : Q x s)
    (hs : subscripted slice false (.ref t) (.int k u) = operate [.ref t, .int k u] (getItem (.ref t) (.int k u)) := by with_unfolding_all rfl) :
    wpAny (model prog w) A (subscriptTail value slice (.ref t) (.int k u)) Q E s := by
  have ht : IsTup s.heap t vs.toArray := News.isTup N hm
  have hk : k.toNat < vs.length := by
    rcases Nat.lt_or_ge k.toNat vs.length with h | h
    · exact h
    · rw [List.getElem?_eq_none h] at hx; cases hx
  have hj : seqIndex? k vs.toArray.size = some k.toNat := by
    have h1 : ¬ k < 0 := by omega
    have h2 : k < (vs.length : Int) := by omega
    simp only [seqIndex?, List.size_toArray, if_neg h1]
    rw [if_pos (by simp [h0, h2])]
  exact tail_any ht.typeIs slot_tuple_getitem.lookup (getItem_tuple ht (by omega) (by omega) hj (by simpa using hx) h) hs
local macro_rules | `(tactic| kct_strs) => `(tactic| k_extra "w kct_strs")
local macro_rules | `(tactic| kwd_rel) => `(tactic| k_extra "w kwd_rel")
local macro_rules | `(tactic| k_room) => `(tactic| k_extra "w k_room")
local macro_rules | `(tactic| k_units) => `(tactic| k_extra "w k_units")
local macro_rules | `(tactic| k_all) => `(tactic| k_extra "w k_all")
local macro_rules | `(tactic| k_mem) => `(tactic| k_extra "w k_mem")
local macro_rules | `(tactic| ktr_rel) => `(tactic| k_extra "w ktr_rel")
local macro_rules | `(tactic| ktn_lt) => `(tactic| k_extra "w ktn_lt")
local macro_rules | `(tactic| k_ownIn) => `(tactic| k_extra "w k_ownIn")
local macro_rules | `(tactic| kwd_inv) => `(tactic| k_extra "w kwd_inv")
section
theorem kw1 : True := by
  k_with "w R" => first | assumption | (refine' sub_cons ?_; k_extra "w R")
  k_with "w z" => ((try simp only [Array.size_push] at *); first | omega | (rename (Array.size _ = _ + List.length _) => hq9; rw [hq9]; omega) | (simp only [List.size_toArray, List.length_nil, Nat.zero_add]; omega))
  k_with "w kct_strs" => (with_reducible first | assumption | exact And.right (by first | assumption | exact And.right (by first | assumption | exact And.right (by first | assumption | exact And.right (by first | assumption | exact And.right (by first | assumption | exact And.right (by first | assumption | exact And.right (by first | assumption | exact And.right (by first | assumption | exact And.right (by first | assumption | exact And.right (by assumption)))))))))))
  k_with "w kpf_c" => (((case B => k_asm); (case F => k_asm); (case X => k_asm); (case T => k_asm); (case hk => first | rfl | assumption)))
  k_with "w kcf_m" => (((case hd => ktr_room); (case hu => ktr_units)))
  k_with "w kcf_all" => ((k_extra "w kpf_c"; k_extra "w kcf_m"; (case N => k_asm)))
  k_with "w kpf_close" => (((case B => k_asm); (case X => k_asm); (case T => k_asm); k_extra "w kcf_m"; (case N => k_asm)))
  k_with "w kbo_bools" => (((try dsimp only [List.take]); (try dsimp only [List.take] at N'); (try k_lt l1); (try k_lt l2); (try k_sweep)))
  k_with "w kwd_rel" => (((repeat (refine' List.mem_cons_of_mem _ ?_)); first | assumption | (refine' List.mem_append_right _ ?_; kwd_rel) | (refine' List.mem_append_left _ ?_; kwd_rel)))
  k_with "w k_room" => (ktr_room)
  k_with "w k_units" => (ktr_units)
  k_with "w k_all" => (first | with_reducible assumption | exact ord_ne (by with_reducible assumption) (by k_mem) | exact lt_ne (by with_reducible kct_strs) | (refine List.forall_mem_append.mpr ⟨?_, ?_⟩ <;> k_all) | assumption | exact ord_ne (by assumption) (by k_mem) | exact lt_ne (by ktn_lt))
  k_with "w k_mem" => (((repeat (refine' List.mem_cons_of_mem _ ?_)); first | ktr_member | (refine' List.mem_append_left _ ?_; ktr_member) | (refine' List.mem_append_right _ ?_; ktr_member) | (refine' List.mem_append_left _ (List.mem_append_left _ ?_); ktr_member) | (refine' List.mem_append_right _ (List.mem_append_left _ ?_); ktr_member)))
  k_with "w ktn_open" => (first | assumption | exact Rest.next (by k_extra "w ktn_open"))
  k_with "m call ref" => ((k_here; (first | k_dflt (show wpAny _ _ (call (Value.ref 500) [Value.ref _, Value.str _ _]) _ _ _) | k_dflt (show wpAny _ _ (call (Value.ref 366) [Value.ref _, Value.ref _, Value.ref _]) _ _ _)); refine Halt.go ?_))
  k_with "m subscriptTail" => ((k_here; (with_reducible refine' tup_at ?Nq1 ?mq2 ?yq3 ?yq4 ?aq5 ?_ ?gq7); k_dflt ((case Nq1 => k_asm); (case mq2 => k_mem); (case yq3 => first | assumption | decide | kwd_inv); (case yq4 => first | assumption | decide | kwd_inv); (case aq5 => first | assumption | rfl); (case gq7 => (intros; with_unfolding_all rfl))); k_whole))
  k_with "m eval Name" => ((k_here; k_dflt (first | (refine' nameX_L ?F ?v ?_ ?a ?b ?c; (case b => kernel_rfl!); (case F => k_asm); (case a => rfl); (case c => rfl); (case v => rfl); k_whole) | (refine' nameX_K ?F ?X ?T ?e ?_ ?a ?b; (case b => kernel_rfl!); (case F => k_asm); (case X => k_asm); (case T => k_asm); (case a => rfl); (case e => k_is); k_whole))))
  k_with "m storeName" => ((k_here; k_dflt (refine' storeX_L ?F ?N ?_ ?a ?b; (case b => kernel_rfl!); (case F => k_asm); (case N => k_asm); (case a => rfl); k_whole; intro h' F' N'; (try k_sweep))))
  k_with "m ite" => (first | refine ite_pos (by assumption) ?_ | refine ite_neg (by assumption) ?_ | (k_closed; first | refine ite_pos (by decide +kernel) ?_ | refine ite_neg (by decide +kernel) ?_))
  k_with "w ktr_rel" => (first | assumption | (intro h9; injection h9 with h9; injection h9 with h9; first | (cases h9; done) | (simp at h9; done)))
  k_with "w ktr_unf" => (first | exact News1 (by k_asm) (by k_mem) (fun q hq => by k_ownIn) | exact News2 (by k_asm) (by k_mem) (by k_mem) (fun q hq => by k_ownIn))
  k_with "w ktn_lt" => (first | kct_strs | exact (allLt_app (by kct_strs)).1 | assumption)
  k_with "w k_ownIn" => (first | exact List.mem_append_left _ (by assumption) | exact List.mem_append_right _ (by assumption))
  k_with "m call builtin:list.append" => ((k_here; k_dflt (show wpAny _ _ (call (Value.builtin "list.append") [Value.ref _, _]) _ _ _); k_dflt (refine' append_K ?k1 ?k2 ?k3 ?_ ?z; (case k1 => k_asm); (case k2 => k_asm); (case k3 => k_upd); (case z => size_fits); k_whole); intro h' F' N'; (try k_sweep)))
  k_with "w kwd_inv" => (first | assumption | exact Nat.le_of_ble_eq_true rfl | omega | (simp only [List.length_append, List.length_take, List.length_drop, List.length_cons, List.length_nil, List.length_replicate]; omega))
  k_with "w kwd_same0" => (((try simp only [List.cons_append, List.nil_append, List.append_assoc] at N'); (try k_sweep)))
  k_with "w kwd_same1" => (((have hq' := put_size hn' hi'); (try simp only [Array.size_push, List.size_toArray, List.length_nil, Nat.zero_add] at N' hi' hq' hn'); (try dsimp only); k_extra "w kwd_same0"))
  k_with "w kwd_same2" => ((k_here; k_dflt (refine' ld ?F ?v ?_; (case F => k_asm); (case v => assumption); k_whole)))
  trivial
theorem noFill_tuple_mul : fillsNumberSlot (.type "tuple") "mul" = pure false :=
  PySem.fillsNumberSlot_seq (id := "tuple.__mul__") (r := some (.builtin "tuple.__rmul__")) F.slot_tuple_mul.lookup (by decide +kernel) F.slot_tuple_rmul.lookup (by decide +kernel)
theorem repeat_tuple : seqRepeat? (.type "tuple") = pure (some (.builtin "tuple.__mul__")) := by
  unfold seqRepeat?
  rw [PySem.seqSlot_of (T := "tuple") (name := "__mul__") (id := "tuple.__mul__") F.slot_tuple_mul.lookup (by decide +kernel), PySem.seqSlot_of (T := "tuple") (name := "__rmul__") (id := "tuple.__rmul__") F.slot_tuple_rmul.lookup (by decide +kernel)]
  rfl
theorem rmul_int_tuple (a : Int) (t : Tok) (l : Addr) (items : Array Value) (n : Nat) :
    Meets (Builtin.«int.__rmul__» ⟨[.int a t, .ref l], []⟩) (fun _ R s => s.heap.get? l = some { cls := .type "tuple", dict := none, data := .seq items n, slots := #[] } ∧ R (.ok (.ret Value.notImplemented)) s) :=
  .of_wp fun prog w A R s h => by obtain ⟨hp, g, d, tk, os⟩ := s; obtain ⟨hl, h⟩ := h; wp_walk; exact ⟨_, rfl, h⟩
theorem mul_tuple1 (l : Addr) (items : Array Value) (n : Nat) (u : Tok) :
    Meets (Builtin.«tuple.__mul__» ⟨[.ref l, .int 1 u], []⟩) (fun _ R s => s.heap.get? l = some { cls := .type "tuple", dict := none, data := .seq items n, slots := #[] } ∧ R (.ok (.ret (Value.ref l))) { s with heap := s.heap, toks := s.toks }) :=
  .of_wp fun prog w A R s h => by
    obtain ⟨hp, g, d, tk, os⟩ := s; obtain ⟨hl, h⟩ := h
    have f1 := AutoSeq1.idx_int
    have hc : (items.isEmpty || (1 : Int) == 1) = true := by simp
    wp_walk
    exact ⟨_, rfl, h⟩
theorem mul_tuple0 (l : Addr) (x : Value) (n : Nat) (u : Tok) :
    Meets (Builtin.«tuple.__mul__» ⟨[.ref l, .int 0 u], []⟩) (fun _ R s => s.heap.get? l = some { cls := .type "tuple", dict := none, data := .seq #[x] n, slots := #[] } ∧ R (.ok (.ret (Value.ref s.heap.objs.size))) { s with heap := s.heap.push { cls := Value.type "tuple", data := Data.seq #[] }, toks := s.toks }) :=
  .of_wp fun prog w A R s h => by
    obtain ⟨hp, g, d, tk, os⟩ := s; obtain ⟨hl, h⟩ := h
    have f1 := AutoSeq1.idx_int
    have hc : ¬ ((#[x].isEmpty || (0 : Int) == 1) = true) := by simp
    have hsz : (0 : Nat) ≤ sizeLine := by size_fits
    wp_walk
    exact ⟨_, rfl, h⟩
theorem rep_fold (x : Value) (k : Nat) (a : Array Value) : (List.replicate k #[x]).foldl (· ++ ·) a = (a.toList ++ List.replicate k x).toArray := by
  induction k generalizing a with
  | zero => simp
  | succ k ih => rw [List.replicate_succ, List.foldl_cons, ih]; simp [List.replicate_succ]
theorem mul_tuple2 (l : Addr) (x : Value) (n k : Nat) (u : Tok) (h2 : 2 ≤ k) (hk : k ≤ 100) :
    Meets (Builtin.«tuple.__mul__» ⟨[.ref l, .int (k : Int) u], []⟩) (fun _ R s => s.heap.get? l = some { cls := .type "tuple", dict := none, data := .seq #[x] n, slots := #[] } ∧ R (.ok (.ret (Value.ref s.heap.objs.size))) { s with heap := s.heap.push { cls := Value.type "tuple", data := Data.seq (List.replicate k x).toArray }, toks := s.toks }) :=
  .of_wp fun prog w A R s h => by
    obtain ⟨hp, g, d, tk, os⟩ := s; obtain ⟨hl, h⟩ := h
    have f1 := AutoSeq1.idx_int
    have hc : ¬ ((#[x].isEmpty || (k : Int) == 1) = true) := by simp; omega
    have hc1 : ¬ ((decide ((k : Int) ≤ 0) || #[x].isEmpty) = true) := by simp; omega
    have hc2 : ¬ ((#[x].size : Int) * (k : Int) > (2 ^ 63 - 1) / 8) := by simp; omega
    have hc3 : ¬ (Builtin.Tuple.tupleTooMany ((#[x].size : Int) * (k : Int)) = true) := by simp [Builtin.Tuple.tupleTooMany, sizeLine]; omega
    have hc4 : (decide ((k : Int) < -2 ^ 63) || decide ((k : Int) ≥ 2 ^ 63)) = false := by simp; omega
    have e : (List.replicate (k : Int).toNat #[x]).foldl (· ++ ·) #[] = (List.replicate k x).toArray := by rw [rep_fold]; simp
    wp_walk
    refine wpAny_ite_false (by rw [hc4]; rfl) ?_
    wp_walk
    refine wpAny_ite_false (decide_eq_false hc) ?_
    wp_walk
    try refine wpAny_ite_false (decide_eq_false hc1) ?_
    try wp_walk
    try refine wpAny_ite_false (decide_eq_false hc2) ?_
    try wp_walk
    try refine wpAny_ite_false (decide_eq_false hc3) ?_
    try wp_walk
    rw [e]
    have hsz : ¬ ((List.replicate k x).toArray.size > sizeLine) := by
      have : (List.replicate k x).toArray.size ≤ 1000 := by simp; omega
      have h3 : 1000 ≤ sizeLine := by size_fits
      omega
    refine wpAny_ite_false (decide_eq_false hsz) ?_
    wp_walk
    exact ⟨_, rfl, h⟩
theorem tup_obj {h : Heap} {t : Addr} {vs : List Value} (N : News h₀ L h news) (hm : (t, tup vs) ∈ news) : h.get? t = some { cls := .type "tuple", dict := none, data := .seq vs.toArray 0, slots := #[] } := (N _ hm).1
theorem tup_mul {prog : Program} {A : Around} {t : Addr} {x : Value} {i : Int} {k : Nat} {u : Tok} (F : Fr h₀ L s.heap m) (N : News h₀ L s.heap news) (ht : (t, tup [x]) ∈ news) (hi : i = (k : Int)) (hk : k ≤ 100)
    (h : ∀ D h', Fr h₀ L h' m → News h₀ L h' ((D, tup (List.replicate k x)) :: news) → (D = t ∨ ∀ p ∈ news, p.1 < D) → Q (.ref D) { s with heap := h' }) :
    wpAny (model prog w) A (binaryOp .Mult (.ref t) (.int i u)) Q E s := by
  subst hi
  have hl := tup_obj N ht
  refine wpAny_binaryOp_repeat_ref (T := "tuple") (U := "int") (by decide) ⟨_, hl, rfl⟩ (fun s' => typeIs_int s' k u) noFill_tuple_mul PySem.F.fills_int_mul PySem.F.slot_int_rmul repeat_tuple PySem.F.slot_int_index.lookup
    (call_meets PySem.F.slot_int_rmul (typeIs_int s k u) PySem.F.entry_int_rmul (PySem.F.args_int_rmul_2 _ _) (rmul_int_tuple k u t #[x] 0) ⟨hl, rfl, ⟨_, hl, rfl⟩, ?_⟩)
  rcases k with _ | _ | k
  · exact call_meets PySem.F.slot_tuple_mul ⟨_, hl, rfl⟩ PySem.F.entry_tuple_mul (PySem.F.args_tuple_mul_2 _ _) (mul_tuple0 t x 0 u) ⟨hl, h _ _ (F.push _) (News.push F N _) (.inr fun p hp => Heap.lt_size (N p hp).1)⟩
  · refine call_meets PySem.F.slot_tuple_mul ⟨_, hl, rfl⟩ PySem.F.entry_tuple_mul (PySem.F.args_tuple_mul_2 _ _) (mul_tuple1 t #[x] 0 u) ⟨hl, ?_⟩
    exact h t s.heap F (fun p hp => by
      rcases List.mem_cons.mp hp with rfl | hp
      · exact N _ ht
      · exact N p hp) (.inl rfl)
  · exact call_meets PySem.F.slot_tuple_mul ⟨_, hl, rfl⟩ PySem.F.entry_tuple_mul (PySem.F.args_tuple_mul_2 _ _) (mul_tuple2 t x 0 (k + 1 + 1) u (by omega) hk) ⟨hl, h _ _ (F.push _) (News.push F N _) (.inr fun p hp => Heap.lt_size (N p hp).1)⟩
end
section
local macro_rules | `(tactic| omega) => `(tactic| k_extra "w omega")
local macro_rules | `(tactic| ktr_room) => `(tactic| k_extra "w ktr_room")
local macro_rules | `(tactic| ktr_units) => `(tactic| k_extra "w ktr_units")
section
theorem kw2 : True := by
  k_with "w omega" => (first | (with_reducible first | assumption | exact Nat.le_of_ble_eq_true (by with_unfolding_all rfl) | exact cl_lt (by with_unfolding_all rfl) | exact Nat.le_trans (by assumption) (Nat.le_of_ble_eq_true (by with_unfolding_all rfl)) | exact Nat.lt_of_lt_of_le (by assumption) (Nat.le_of_ble_eq_true (by with_unfolding_all rfl)) | exact Nat.le_trans (Nat.le_of_lt (by assumption)) (Nat.le_of_ble_eq_true (by with_unfolding_all rfl)) | exact eq_le (by assumption) (by assumption) (by with_unfolding_all rfl) | exact eq_lt (by assumption) (by assumption) (by with_unfolding_all rfl) | exact eq_ltt (by assumption) (by assumption) | exact (Int.toNat_of_nonneg (by assumption)).symm | exact Int.not_lt.mpr (by assumption) | exact Ne.symm (by assumption) | exact lt_and (by kct_strs) | exact ne_gt (by assumption) | exact ne_lt (by assumption) | exact ne_gt (And.left (by kct_strs)) | exact ne_lt (And.left (by kct_strs))) | decide +kernel)
  k_with "w ktr_room" => (first | exact rm2 (d := dp) (by with_reducible assumption) (by exact rfl) | exact rm0 (d := dp) (by with_reducible assumption) | exact rm1 (d := dp) (by with_reducible assumption) (by exact rfl) | exact rm3 (d := dp) (by with_reducible assumption) (by exact rfl) | exact rq2 (d := dp) (by with_reducible assumption) (by exact rfl) | exact rq1 (d := dp) (by with_reducible assumption) (by exact rfl) | exact rq3 (d := dp) (by with_reducible assumption) (by exact rfl) | exact rs1 (d := dp) (by with_reducible assumption) (by exact rfl) | exact rs2 (d := dp) (by with_reducible assumption) (by exact rfl) | exact rt1 (d := dp) (by with_reducible assumption) (by exact rfl) | exact rn2 (d := dp) (by with_reducible assumption) (by with_reducible assumption) (by exact rfl) | exact rv1 (d := dp) (by with_reducible assumption) (by exact rfl) | exact ru2 (d := dp) (by with_reducible assumption) (by with_reducible assumption) (by exact rfl) | omega)
  k_with "w ktr_units" => (first | exact rm2 (d := un) (by with_reducible assumption) (by exact rfl) | exact rm0 (d := un) (by with_reducible assumption) | exact rm1 (d := un) (by with_reducible assumption) (by exact rfl) | exact rm3 (d := un) (by with_reducible assumption) (by exact rfl) | exact rq2 (d := un) (by with_reducible assumption) (by exact rfl) | exact rq1 (d := un) (by with_reducible assumption) (by exact rfl) | exact rq3 (d := un) (by with_reducible assumption) (by exact rfl) | exact rs1 (d := un) (by with_reducible assumption) (by exact rfl) | exact rs2 (d := un) (by with_reducible assumption) (by exact rfl) | exact rt1 (d := un) (by with_reducible assumption) (by exact rfl) | exact rn2 (d := un) (by with_reducible assumption) (by with_reducible assumption) (by exact rfl) | exact rv1 (d := un) (by with_reducible assumption) (by exact rfl) | exact ru2 (d := un) (by with_reducible assumption) (by with_reducible assumption) (by exact rfl) | omega)
  k_with "m exec While Call cons nil" => ((k_here; k_dflt (refine whl_start 9 ?_)))
  k_with "m exec While Compare cons nil" => ((k_here; k_dflt (refine whl_start 9 ?_)))
  k_with "m WhlIf" => ((first | (refine WhlIf.yes (by assumption) ?_) | (refine WhlIf.no (by assumption) ?_)))
  trivial
theorem lt_nil (b : Nat) : ¬ ([b] : List Nat) < [] := by simp
noncomputable def tgt (a : Int) (x : Str) (b : Int) (y : Str) : Bool := if a = b then (if x = y then false else decide (y.cps.toList < x.cps.toList)) else decide (b < a)
theorem tup_gt {prog : Program} {A : Around} {l r : Addr} {a b : Int} {x y : Str} {t t' u u' : Tok} (hl : IsTup s.heap l #[.int a t, .str x u]) (hr : IsTup s.heap r #[.int b t', .str y u']) (hu : A.units + 8 < cLine)
    (h : Q (.bool (tgt a x b y)) s) : wpAny (model prog w) A (compareOp .Gt (.ref l) (.ref r)) Q E s := by
  have hTl : s.TypeIs (.ref l) "tuple" := hl.typeIs
  have hTr : s.TypeIs (.ref r) "tuple" := hr.typeIs
  obtain ⟨oa, hoa, _, na, hda⟩ := hl
  obtain ⟨ob, hob, _, nb, hdb⟩ := hr
  refine wpAny_richCompare_same_room (op := .Gt) hTl hTr F.slot_tuple_gt (wpAny_call_entry F.slot_tuple_gt hTl F.entry_tuple_gt ?_ (F.args_tuple_gt_2 _ _)) (by omega)
  show wpAny _ _ (isInstance (.ref r) (.type "tuple") >>= _) _ _ s
  refine wpAny_bind (wpAny_isInstance hTr isSubtype_tuple_tuple ?_)
  simp only [Bool.not_true, Bool.false_eq_true, if_false]
  refine wpAny_bind (wpAny_tupleItemsOf hoa hda ?_)
  refine wpAny_bind (wpAny_tupleItemsOf hob hdb ?_)
  simp only [List.zip_cons_cons, List.zip_nil_left, List.forIn_cons, List.forIn_nil]
  refine wpAny_bind (wpAny_bind (wpAny_bind (wpAny_eqBool_int ?_)))
  by_cases e : a = b
  · subst e
    simp only [beq_self_eq_true, Bool.not_true, Bool.false_eq_true, if_false]
    refine wpAny_pure (wpAny_bind (wpAny_bind (eqBool_str ?_)))
    by_cases e2 : x = y
    · subst e2
      simp only [beq_self_eq_true, Bool.not_true, Bool.false_eq_true, if_false]
      refine wpAny_pure (wpAny_pure (wpAny_pure ⟨_, rfl, ?_, ?_⟩))
      · exact fun x => nomatch x
      · have h2 : tgt a x a x = false := by simp [tgt]
        rw [h2] at h; exact h
    · rw [show (x == y) = false from beq_eq_false_iff_ne.mpr e2]
      simp only [Bool.not_false, if_true]
      have h2 : tgt a x a y = decide (y.cps.toList < x.cps.toList) := by simp [tgt, e2]
      rw [h2] at h
      refine wpAny_bind (wpAny_bind (wpAny_rule (wpAny_pure ?_)))
      refine wpAny_bind (wpAny_mono (show wpAny _ _ (compareOp .Gt (.str x u) (.str y u')) (fun v s' => v = .bool (decide (y.cps.toList < x.cps.toList)) ∧ s' = s) _ _ from P.gt_str ⟨rfl, rfl⟩) ?_ (fun _ _ e => e))
      rintro v s' ⟨rfl, rfl⟩
      refine wpAny_bind (wpAny_pure (wpAny_pure (wpAny_pure ?_)))
      exact wpAny_pure ⟨_, rfl, (fun x => nomatch x), h⟩
  · rw [show (a == b) = false from beq_eq_false_iff_ne.mpr e]
    simp only [Bool.not_false, if_true]
    have h2 : tgt a x b y = decide (b < a) := by simp [tgt, e]
    rw [h2] at h
    refine wpAny_bind (wpAny_bind (wpAny_rule (wpAny_pure ?_)))
    refine wpAny_bind (wpAny_mono (show wpAny _ _ (compareOp .Gt (.int a t) (.int b t')) (fun v s' => v = .bool (decide (b < a)) ∧ s' = s) _ _ from gt_int ⟨rfl, rfl⟩) ?_ (fun _ _ e => e))
    rintro v s' ⟨rfl, rfl⟩
    refine wpAny_bind (wpAny_pure (wpAny_pure (wpAny_pure ?_)))
    exact wpAny_pure ⟨_, rfl, (fun x => nomatch x), h⟩
theorem tup_gt_no {prog : Program} {A : Around} {l r : Addr} {a b : Int} {x y : Str} {t t' u u' : Tok} (hl : IsTup s.heap l #[.int a t, .str x u]) (hr : IsTup s.heap r #[.int b t', .str y u']) (hu : A.units + 8 < cLine)
    (hz : tgt a x b y = false) (h : Q (.bool false) s) : wpAny (model prog w) A (compareOp .Gt (.ref l) (.ref r)) Q E s := tup_gt hl hr hu (by rw [hz]; exact h)
theorem tgt_self (a : Int) (x : Str) : tgt a x a x = false := by simp [tgt]
noncomputable abbrev lzs (c : Nat) : Str := if c = 48 then ⟨#[]⟩ else ⟨#[c]⟩
theorem tgt_dig {c e : Nat} (h1 : decide (48 ≤ c ∧ c ≤ 57) = true) (h : c ≤ e) : tgt ((lzs c).length : Int) (lzs c) ((lzs e).length : Int) (lzs e) = false := by
  have h1 := of_decide_eq_true h1
  by_cases q : c = e
  · subst q; exact tgt_self _ _
  · by_cases z : c = 48
    · subst z
      have : e ≠ 48 := fun x => q x.symm
      simp [tgt, lzs, this, PySem.Str.length]
    · have z2 : e ≠ 48 := by omega
      have z3 : ¬ e < c := by omega
      simp [tgt, lzs, z, z2, q, PySem.Str.length, List.cons_lt_cons_iff, z3]
theorem len_lzs (c : Nat) : (lzs c).length = if c = 48 then (⟨#[]⟩ : Str).length else 1 := by
  unfold lzs; split <;> rfl
theorem tgt_dig2 {c e : Nat} (h1 : decide (48 ≤ c ∧ c ≤ 57) = true) (h : c ≤ e) : tgt (((if c = 48 then (⟨#[]⟩ : Str).length else 1 : Nat)) : Int) (lzs c) (((if e = 48 then (⟨#[]⟩ : Str).length else 1 : Nat)) : Int) (lzs e) = false := by
  rw [← len_lzs, ← len_lzs]; exact tgt_dig h1 h
theorem sign_c {x dx : Addr} {k1 k2 k3 k4 k5 t1 t2 : Tok} {tx : Str} {i : Int} {l : List Nat} {g b d : Value}
    (B : Below A₀ base outer h₀) (F : Fr h₀ L s.heap m) (X : (kk.heap_1 w.params).In h₀) (T : Top p loose mean mg mb h₀) (hk : cs.kind = .function) (hd : dp + 2 < recursionLimit) (hu : un + 16 < cLine)
    (N : News h₀ L s.heap news) (hx : (x, instObj 594 dx) ∈ news) (hx2 : (dx, rdr w k1 k2 k3 k4 k5 (.str tx t1) (.int i t2) g b d) ∈ news)
    (hs : Rest tx i l)
    (ret : ∀ h' tk t, Fr h₀ L h' m → News h₀ L h' news → Q (.str ⟨(l.take 1).toArray⟩ t) { s with heap := h', toks := tk }) :
    wpAny (model PySem.Challenge.rw_sz0083_01.row.prog w) (ktrTop dp un gd cn cs L a ccd cl outer) (call (.ref 486) [.ref x]) Q E s := by
  k_with "m compareOp Gt ref ref" => ((k_here; k_dflt (refine' tup_gt_no ?l ?r ?u ?z ?_; (case l => exact News.isTup (by k_asm) (by k_mem)); (case r => exact News.isTup (by k_asm) (by k_mem)); (case z => first | exact tgt_self _ _ | exact tgt_dig2 (by assumption) (by assumption)); (case u => ktr_units))))
  have e := hs.slice 1
  obtain ⟨h1, h2, h3, -⟩ := id hs
  refine wpAny_call ?_
  k_dflt ktr_enter
  k_steps
  rw [show Txt.slice tx (some i) (some (i + 1)) = _ from e]
  exact ret _ _ _ (by k_asm) (by k_asm)
theorem take_c {x dx : Addr} {k1 k2 k3 k4 k5 t1 t2 : Tok} {tx : Str} {i : Int} {l : List Nat} {g b d : Value}
    (B : Below A₀ base outer h₀) (F : Fr h₀ L s.heap m) (X : (kk.heap_1 w.params).In h₀) (T : Top p loose mean mg mb h₀) (hk : cs.kind = .function) (hd : dp + 4 < recursionLimit) (hu : un + 32 < cLine)
    (N : News h₀ L s.heap news) (hx : (x, instObj 594 dx) ∈ news) (U : ∀ o', Upd dx (rdr w k1 k2 k3 k4 k5 (.str tx t1) (.int i t2) g b d) o' news (upd o'))
    (hs : Rest tx i l)
    (ret : ∀ h' tk t t', Fr h₀ L h' m → News h₀ L h' (upd (rdr w k1 k2 k3 k4 k5 (.str tx t1) (.int (i + 1) t') g b d)) → Q (.str ⟨(l.take 1).toArray⟩ t) { s with heap := h', toks := tk }) :
    wpAny (model PySem.Challenge.rw_sz0083_01.row.prog w) (ktrTop dp un gd cn cs L a ccd cl outer) (call (.ref 493) [.ref x]) Q E s := by
  k_with "m call ref" => ((k_here; k_dflt (show wpAny _ _ (call (Value.ref 486) _) _ _ _); k_dflt (refine' sign_c ?B ?F ?X ?T ?hk ?hd ?hu ?N ?mq1 ?mq2 ?oq3 ?_; k_extra "w kpf_c"; (case N => k_asm); (case mq1 => k_mem); (case mq2 => k_mem); (case oq3 => k_extra "w ktn_open"); k_extra "w kcf_m"); intro h' tk' t' F' N'; k_extra "w kbo_bools"))
  obtain ⟨R, hR, hin, N, back⟩ := Upd_use U N
  replace hx := (hin _ hx).resolve_left (fun e => by cases e)
  clear hin U
  obtain ⟨h1, h2, h3, -⟩ := id hs
  refine wpAny_call ?_
  k_dflt ktr_enter
  k_steps
  exact ret _ _ _ _ (by k_asm) (back _ _ [] (by k_extra "w ktr_unf"))
theorem skip_f {x dx : Addr} {k1 k2 k3 k4 k5 t1 t2 t3 : Tok} {tx wd : Str} {i : Int} {l : List Nat} {g b d : Value}
    (B : Below A₀ base outer h₀) (F : Fr h₀ L s.heap m) (X : (kk.heap_1 w.params).In h₀) (T : Top p loose mean mg mb h₀) (hk : cs.kind = .function) (hd : dp + 4 < recursionLimit) (hu : un + 32 < cLine)
    (N : News h₀ L s.heap news) (hx : (x, instObj 594 dx) ∈ news) (hx2 : (dx, rdr w k1 k2 k3 k4 k5 (.str tx t1) (.int i t2) g b d) ∈ news)
    (hs : Rest tx i l) (hw : wd.length ≤ 8) (hne : (⟨(l.take wd.length).toArray⟩ : Str) ≠ wd)
    (ret : ∀ h' tk, Fr h₀ L h' m → News h₀ L h' news → Q (.bool false) { s with heap := h', toks := tk }) :
    wpAny (model PySem.Challenge.rw_sz0083_01.row.prog w) (ktrTop dp un gd cn cs L a ccd cl outer) (call (.ref 500) [.ref x, .str wd t3]) Q E s := by
  k_with "m call ref" => ((k_here; k_dflt (show wpAny _ _ (call (Value.ref 493) _) _ _ _); k_dflt (refine' take_c ?B ?F ?X ?T ?hk ?hd ?hu ?N ?mq1 ?uq2 ?oq3 ?_; k_extra "w kpf_c"; (case N => k_asm); (case mq1 => k_mem); (case uq2 => (intro o'; k_upd)); (case oq3 => k_extra "w ktn_open"); k_extra "w kcf_m"); intro h' tk' t' t'' F' N'; k_extra "w kbo_bools"))
  have e := hs.slice wd.length
  have hc : (Txt.slice tx (some i) (some (i + (wd.length : Int))) != wd) = true := by rw [e]; exact bne_iff_ne.mpr hne
  obtain ⟨h1, h2, h3, -⟩ := id hs
  clear hs e
  refine wpAny_call ?_
  k_dflt ktr_enter
  k_steps
  exact ret _ _ (by k_asm) (by k_asm)
theorem skip_t {x dx : Addr} {k1 k2 k3 k4 k5 t1 t2 t3 : Tok} {tx wd : Str} {i : Int} {l : List Nat} {g b d : Value}
    (B : Below A₀ base outer h₀) (F : Fr h₀ L s.heap m) (X : (kk.heap_1 w.params).In h₀) (T : Top p loose mean mg mb h₀) (hk : cs.kind = .function) (hd : dp + 4 < recursionLimit) (hu : un + 32 < cLine)
    (N : News h₀ L s.heap news) (hx : (x, instObj 594 dx) ∈ news) (U : ∀ o', Upd dx (rdr w k1 k2 k3 k4 k5 (.str tx t1) (.int i t2) g b d) o' news (upd o'))
    (hs : Rest tx i l) (hw : wd.length ≤ 8) (hne : (⟨(l.take wd.length).toArray⟩ : Str) = wd)
    (ret : ∀ h' tk t', Fr h₀ L h' m → News h₀ L h' (upd (rdr w k1 k2 k3 k4 k5 (.str tx t1) (.int (i + (wd.length : Int)) t') g b d)) → Q (.bool true) { s with heap := h', toks := tk }) :
    wpAny (model PySem.Challenge.rw_sz0083_01.row.prog w) (ktrTop dp un gd cn cs L a ccd cl outer) (call (.ref 500) [.ref x, .str wd t3]) Q E s := by
  obtain ⟨R, hR, hin, N, back⟩ := Upd_use U N
  replace hx := (hin _ hx).resolve_left (fun e => by cases e)
  clear hin U
  have e := hs.slice wd.length
  have hc : ¬ (Txt.slice tx (some i) (some (i + (wd.length : Int))) != wd) = true := by rw [e, hne]; simp
  obtain ⟨h1, h2, h3, -⟩ := id hs
  clear hs e
  refine wpAny_call ?_
  k_dflt ktr_enter
  k_steps
  exact ret _ _ _ (by k_asm) (back _ _ [] (by k_extra "w ktr_unf"))
section
theorem kw3 : True := by
  k_with "m call ref" => ((k_here; k_dflt (show wpAny _ _ (call (Value.ref 500) _) _ _ _); k_dflt (refine' skip_t ?B ?F ?X ?T ?hk ?hd ?hu ?N ?mq1 ?uq2 ?oq3 ?dq4 ?aq5 ?_; k_extra "w kpf_c"; (case N => k_asm); (case mq1 => k_mem); (case uq2 => (intro o'; k_upd)); (case oq3 => k_extra "w ktn_open"); (case dq4 => decide +kernel); (case aq5 => first | assumption | rfl); k_extra "w kcf_m"); intro h' tk' t' F' N'; k_extra "w kbo_bools"))
  k_with "m call ref" => ((k_here; k_dflt (show wpAny _ _ (call (Value.ref 500) _) _ _ _); k_dflt (refine' skip_f ?B ?F ?X ?T ?hk ?hd ?hu ?N ?mq1 ?mq2 ?oq3 ?dq4 ?rq5 ?_; k_extra "w kpf_c"; (case N => k_asm); (case mq1 => k_mem); (case mq2 => k_mem); (case oq3 => k_extra "w ktn_open"); (case dq4 => decide +kernel); (case rq5 => ktr_rel); k_extra "w kcf_m"); intro h' tk' F' N'; k_extra "w kbo_bools"))
  trivial
theorem c0 : (Str.ofString "0").cps.toList = [48] := by decide
theorem c9 : (Str.ofString "9").cps.toList = [57] := by decide
theorem lt1 (a b : Nat) : ([a] : List Nat) < [b] ↔ a < b := by simp [List.cons_lt_cons_iff]
theorem dec_t {t : Tok} {c : Nat} (B : Below A₀ base outer h₀) (F : Fr h₀ L s.heap m) (X : (kk.heap_1 w.params).In h₀) (T : Top p loose mean mg mb h₀) (hk : cs.kind = .function) (hd : dp + 2 < recursionLimit) (hu : un + 16 < cLine)
    (N : News h₀ L s.heap news)
    (ret : ∀ h' tk, Fr h₀ L h' m → News h₀ L h' news → Q (.bool (decide (48 ≤ c ∧ c ≤ 57))) { s with heap := h', toks := tk }) :
    wpAny (model PySem.Challenge.rw_sz0083_01.row.prog w) (ktrTop dp un gd cn cs L a ccd cl outer) (call (.ref 465) [.str ⟨#[c]⟩ t]) Q E s := by
  refine wpAny_call ?_
  k_dflt ktr_enter
  k_steps
  · rename (_ < _) => z
    rw [c0, lt1] at z
    have e1 : (!decide ([c] < (Str.ofString "0").cps.toList)) = decide (48 ≤ c ∧ c ≤ 57) := by
      rw [c0]; simp only [lt1]; rw [decide_eq_true z, decide_eq_false (by omega)]; rfl
    rw [e1]
    exact ret _ _ (by k_asm) (by k_asm)
  · rename (¬ _ < _) => z
    rw [c0, lt1] at z
    have e1 : (!decide ((Str.ofString "9").cps.toList < [c])) = decide (48 ≤ c ∧ c ≤ 57) := by
      rw [c9]; simp only [lt1]
      by_cases q : 57 < c
      · rw [decide_eq_true q, decide_eq_false (by omega)]; rfl
      · rw [decide_eq_false q, decide_eq_true (by omega)]; rfl
    rw [e1]
    exact ret _ _ (by k_asm) (by k_asm)
theorem dec_e {t : Tok} (B : Below A₀ base outer h₀) (F : Fr h₀ L s.heap m) (X : (kk.heap_1 w.params).In h₀) (T : Top p loose mean mg mb h₀) (hk : cs.kind = .function) (hd : dp + 2 < recursionLimit) (hu : un + 16 < cLine)
    (N : News h₀ L s.heap news)
    (ret : ∀ h' tk, Fr h₀ L h' m → News h₀ L h' news → Q (.bool false) { s with heap := h', toks := tk }) :
    wpAny (model PySem.Challenge.rw_sz0083_01.row.prog w) (ktrTop dp un gd cn cs L a ccd cl outer) (call (.ref 465) [.str ⟨#[]⟩ t]) Q E s := by
  k_with "m call builtin:len" => ((fail_if_success (have z9 := @off6)); (k_here; k_dflt (show wpAny _ _ (call (Value.builtin "len") [Value.str ⟨List.toArray []⟩ _]) _ _ _); k_dflt (refine P.len_str (by decide) ?_)))
  refine wpAny_call ?_
  k_dflt ktr_enter
  k_steps
  all_goals (first | exact ret _ _ (by k_asm) (by k_asm))
end
theorem off6 : True := trivial
section
theorem min_code {c : Nat} (h : decide (48 ≤ c ∧ c ≤ 57) = true) : (if (1000000000 : Int) < 10 * 0 + (c : Int) - 48 then (1000000000 : Int) else 10 * 0 + (c : Int) - 48) = (c : Int) - 48 := by
  k_with "m call ref" => ((k_here; k_dflt (show wpAny _ _ (call (Value.ref 465) _) _ _ _); k_dflt (refine' dec_t ?B ?F ?X ?T ?hk ?hd ?hu ?N  ?_; k_extra "w kpf_c"; (case N => k_asm); k_extra "w kcf_m"); intro h' tk' F' N'; k_extra "w kbo_bools"))
  k_with "m call ref" => ((k_here; k_dflt (show wpAny _ _ (call (Value.ref 465) _) _ _ _); k_dflt (refine' dec_e ?B ?F ?X ?T ?hk ?hd ?hu ?N  ?_; k_extra "w kpf_c"; (case N => k_asm); k_extra "w kcf_m"); intro h' tk' F' N'; k_extra "w kbo_bools"))
  k_with "m call builtin:len" => ((fail_if_success (have z9 := @off7)); (k_here; k_dflt (show wpAny _ _ (call (Value.builtin "len") [Value.str ⟨List.toArray []⟩ _]) _ _ _); k_dflt (refine P.len_str (by decide) ?_)))
  have := of_decide_eq_true h
  rw [if_neg (by omega)]; omega
theorem number_c {x dx : Addr} {k1 k2 k3 k4 k5 t1 t2 : Tok} {tx : Str} {i : Int} {c e : Nat} {l : List Nat} {g b d : Value}
    (B : Below A₀ base outer h₀) (F : Fr h₀ L s.heap m) (X : (kk.heap_1 w.params).In h₀) (T : Top p loose mean mg mb h₀) (hk : cs.kind = .function) (hd : dp + 8 < recursionLimit) (hu : un + 64 < cLine)
    (N : News h₀ L s.heap news) (hx : (x, instObj 594 dx) ∈ news) (U : ∀ o', Upd dx (rdr w k1 k2 k3 k4 k5 (.str tx t1) (.int i t2) g b d) o' news (upd o'))
    (hs : Rest tx i (c :: e :: l)) (h1 : decide (48 ≤ c ∧ c ≤ 57) = true) (h2 : decide (48 ≤ e ∧ e ≤ 57) = false)
    (ret : ∀ h' tk t t', Fr h₀ L h' m → News h₀ L h' (upd (rdr w k1 k2 k3 k4 k5 (.str tx t1) (.int (i + 1) t') g b d)) → Q (.int ((c : Int) - 48) t) { s with heap := h', toks := tk }) :
    wpAny (model PySem.Challenge.rw_sz0083_01.row.prog w) (ktrTop dp un gd cn cs L a ccd cl outer) (call (.ref 549) [.ref x]) Q E s := by
  obtain ⟨R, hR, hin, N, back⟩ := Upd_use U N
  replace hx := (hin _ hx).resolve_left (fun e => by cases e)
  clear hin U
  have hs1 := hs.next
  have hA : ¬ (i = i + 1) := by omega
  have hB : ¬ (decide (i = i + 1) = true) := by simp; omega
  have hC : ¬ ((i == i + 1) = true) := by simp; omega
  refine wpAny_call ?_
  k_dflt ktr_enter
  k_steps
  all_goals (rw [min_code h1]; exact ret _ _ _ _ (by k_asm) (back _ _ [] (by k_extra "w ktr_unf")))
end
theorem off7 : True := trivial
section
theorem kw4 : True := by
  k_with "m call ref" => ((k_here; k_dflt (show wpAny _ _ (call (Value.ref 549) _) _ _ _); k_dflt (refine' number_c ?B ?F ?X ?T ?hk ?hd ?hu ?N ?mq1 ?uq2 ?oq3 ?aq4 ?aq5 ?_; k_extra "w kpf_c"; (case N => k_asm); (case mq1 => k_mem); (case uq2 => (intro o'; k_upd)); (case oq3 => k_extra "w ktn_open"); (case aq4 => first | assumption | rfl); (case aq5 => first | assumption | rfl); k_extra "w kcf_m"); intro h' tk' t' t'' F' N'; k_extra "w kbo_bools"))
  k_with "m call builtin:len" => ((fail_if_success (have z9 := @off8)); (k_here; k_dflt (show wpAny _ _ (call (Value.builtin "len") [Value.str ⟨List.toArray []⟩ _]) _ _ _); k_dflt (refine P.len_str (by decide) ?_)))
  trivial
theorem lz_all : ∀ n < 10, Txt.lstripChars ⟨#[48 + n]⟩ (Str.ofString "0") = if 48 + n = 48 then ⟨#[]⟩ else ⟨#[48 + n]⟩ := by decide +kernel
theorem lz {c : Nat} (h : decide (48 ≤ c ∧ c ≤ 57) = true) : Txt.lstripChars ⟨#[c]⟩ (Str.ofString "0") = if c = 48 then ⟨#[]⟩ else ⟨#[c]⟩ := by
  have h := of_decide_eq_true h
  obtain ⟨n, rfl⟩ := Nat.exists_eq_add_of_le h.1
  exact lz_all n (Nat.lt_of_add_lt_add_left (Nat.lt_succ_of_le h.2))
theorem lt_new {dx y : Addr} {o : Obj} {R : List (Addr × Obj)} (hin : ∀ q ∈ news, q = (dx, o) ∨ q ∈ R) (h : @LT.lt Nat _ dx y) (h2 : AllLt y R) : ∀ q ∈ news, q.1 < y := fun q hq => by
  rcases hin q hq with rfl | h9
  · exact h
  · exact ktn_ltOf h2 q h9
theorem counted_c {x dx : Addr} {k1 k2 k3 k4 k5 t1 t2 : Tok} {tx : Str} {i : Int} {c e : Nat} {l : List Nat} {g b d : Value}
    (B : Below A₀ base outer h₀) (F : Fr h₀ L s.heap m) (X : (kk.heap_1 w.params).In h₀) (T : Top p loose mean mg mb h₀) (hk : cs.kind = .function) (hd : dp + 10 < recursionLimit) (hu : un + 80 < cLine)
    (N : News h₀ L s.heap news) (hx : (x, instObj 594 dx) ∈ news) (U : ∀ o', Upd dx (rdr w k1 k2 k3 k4 k5 (.str tx t1) (.int i t2) g b d) o' news (upd o'))
    (hs : Rest tx i (c :: e :: l)) (h1 : decide (48 ≤ c ∧ c ≤ 57) = true) (h2 : decide (48 ≤ e ∧ e ≤ 57) = false)
    (ret : ∀ h' tk t t' t'' y, Fr h₀ L h' m → News h₀ L h' ((y, { cls := .type "tuple", data := .seq #[.int ((c : Int) - 48) t, .str (if c = 48 then ⟨#[]⟩ else ⟨#[c]⟩) t''] }) :: upd (rdr w k1 k2 k3 k4 k5 (.str tx t1) (.int (i + 1) t') g b d)) → (∀ q ∈ news, q.1 < y) → Q (.ref y) { s with heap := h', toks := tk }) :
    wpAny (model PySem.Challenge.rw_sz0083_01.row.prog w) (ktrTop dp un gd cn cs L a ccd cl outer) (call (.ref 542) [.ref x]) Q E s := by
  obtain ⟨R, hR, hin, N, back⟩ := Upd_use U N
  replace hx := (hin _ hx).resolve_left (fun e => by cases e)
  clear U
  have hs1 := hs.next
  obtain ⟨z1, z2, z3, -⟩ := id hs
  have ez := hs.slice 1
  refine wpAny_call ?_
  k_dflt ktr_enter
  k_steps
  rename (dx < _ ∧ AllLt _ _) => z9
  rw [show Txt.slice tx (some i) (some (i + 1)) = ⟨#[c]⟩ from ez, lz h1] at *
  exact ret _ _ _ _ _ _ (by k_asm) (back _ _ [_] (by k_extra "w ktr_unf")) (lt_new hin z9.1 z9.2)
end
theorem off8 : True := trivial
theorem kw5 : True := by
  k_with "m call ref" => ((k_here; k_dflt (show wpAny _ _ (call (Value.ref 542) _) _ _ _); k_dflt (refine' counted_c ?B ?F ?X ?T ?hk ?hd ?hu ?N ?mq1 ?uq2 ?oq3 ?aq4 ?aq5 ?_; k_extra "w kpf_c"; (case N => k_asm); (case mq1 => k_mem); (case uq2 => (intro o'; k_upd)); (case oq3 => k_extra "w ktn_open"); (case aq4 => first | assumption | rfl); (case aq5 => first | assumption | rfl); k_extra "w kcf_m"); intro h' tk' t' t'' t''' y' F' N' l1; k_extra "w kbo_bools"))
  trivial
theorem len_small {x : Str} (h : Nat.ble x.length 1000 = true) : ¬ (x.length : Int) ≥ 2 ^ 63 := fun e => by have := Nat.le_of_ble_eq_true h; omega
inductive OftSh (c e0 : Nat) (l0 : List Nat) (i : Int) : Int → Option Int → Prop where
  | one : e0 = 125 → OftSh c e0 l0 i (i + 1 + 1 + 1) (some ((c : Int) - 48))
  | two {e : Nat} {l : List Nat} : e0 = 44 → l0 = e :: 125 :: l → decide (48 ≤ e ∧ e ≤ 57) = true → c ≤ e → OftSh c e0 l0 i (i + 1 + 1 + 1 + 1 + 1) (some ((e : Int) - 48))
  | opn {l : List Nat} : e0 = 44 → l0 = 125 :: l → OftSh c e0 l0 i (i + 1 + 1 + 1 + 1) none
theorem often_c {x dx : Addr} {k1 k2 k3 k4 k5 t1 t2 : Tok} {tx : Str} {i i' : Int} {c e0 : Nat} {l0 : List Nat} {g b d : Value} {most : Option Int}
    (B : Below A₀ base outer h₀) (F : Fr h₀ L s.heap m) (X : (kk.heap_1 w.params).In h₀) (T : Top p loose mean mg mb h₀) (hk : cs.kind = .function) (hd : dp + 12 < recursionLimit) (hu : un + 96 < cLine)
    (N : News h₀ L s.heap news) (hx : (x, instObj 594 dx) ∈ news) (U : ∀ o', Upd dx (rdr w k1 k2 k3 k4 k5 (.str tx t1) (.int i t2) g b d) o' news (upd o'))
    (hs : Rest tx i (123 :: c :: e0 :: l0)) (h1 : decide (48 ≤ c ∧ c ≤ 57) = true) (h2 : decide (48 ≤ e0 ∧ e0 ≤ 57) = false) (sh : OftSh c e0 l0 i i' most)
    (ret : ∀ h' tk t2' y k mv, Fr h₀ L h' m → News h₀ L h' ((y, tup [.int ((c : Int) - 48) k, mv]) :: upd (rdr w k1 k2 k3 k4 k5 (.str tx t1) (.int i' t2') g b d)) → (∀ q ∈ news, q.1 < y) → OptV mv most → Q (.ref y) { s with heap := h', toks := tk }) :
    wpAny (model PySem.Challenge.rw_sz0083_01.row.prog w) (ktrTop dp un gd cn cs L a ccd cl outer) (call (.ref 535) [.ref x]) Q E s := by
  k_with "m call builtin:len" => ((k_here; (with_reducible show wpAny _ _ (call (Value.builtin "len") [Value.str _ _]) _ _ _); (refine P.len_str (len_small rfl) ?_); (try simp only [KOpn.len_one])))
  obtain ⟨R, hR, hin, N, back⟩ := Upd_use U N
  replace hx := (hin _ hx).resolve_left (fun e => by cases e)
  clear U
  have hs1 := hs.next
  have hs2 := hs1.next
  refine wpAny_call ?_
  k_dflt ktr_enter
  k_steps
  cases sh with
  | one e =>
    subst e
    have hs3 := hs2.next
    refine Halt.on ?_
    k_steps
    all_goals first | exact ret _ _ _ _ _ _ (by k_asm) (back _ _ [_] (by k_extra "w ktr_unf")) (lt_new hin (by omega) (by ktn_lt)) .some | w_report
  | two e e1 h3 h4 =>
    subst e e1
    have hs3 := hs2.next
    have hs4 := hs3.next
    have hs5 := hs4.next
    refine Halt.on ?_
    k_steps
    all_goals first | exact ret _ _ _ _ _ _ (by k_asm) (back _ _ [_] (by k_extra "w ktr_unf")) (lt_new hin (by omega) (by ktn_lt)) .some | w_report
  | opn e e1 =>
    subst e e1
    have hs3 := hs2.next
    have hs4 := hs3.next
    refine Halt.on ?_
    k_steps
    all_goals first | exact ret _ _ _ _ _ _ (by k_asm) (back _ _ [_] (by k_extra "w ktr_unf")) (lt_new hin (by omega) (by ktn_lt)) .none | w_report
theorem RSpec.use {f : Addr} {n : Nat} {tx : Str} {d i g i' g' : Int} {T' : Tr} {x dx : Addr} {k1 k2 k3 k4 k5 t1 t2 t3 t4 : Tok} {b : Value}
    (B : Below A₀ base outer h₀) (F : Fr h₀ L s.heap m) (X : (kk.heap_1 w.params).In h₀) (T : Top p loose mean mg mb h₀) (hk : cs.kind = .function) (hd : dp + n < recursionLimit) (hu : un + 8 * n < cLine) (N : News h₀ L s.heap news) (hx : (x, instObj 594 dx) ∈ news) (U : ∀ o', Upd dx (rdr w k1 k2 k3 k4 k5 (.str tx t1) (.int i t2) (.int g t3) b (.int d t4)) o' news (upd o')) (S : RSpec w f n tx d i g i' g' T') (ret : ∀ h' tk t2' t3' t4' v tl, Fr h₀ L h' m → News h₀ L h' (upd (rdr w k1 k2 k3 k4 k5 (.str tx t1) (.int i' t2') (.int g' t3') b (.int d t4')) ++ tl) → (∀ q ∈ news, ∀ p ∈ tl, q.1 < p.1) → TreeIn tl v T' → Q v { s with heap := h', toks := tk }) :
    wpAny (model PySem.Challenge.rw_sz0083_01.row.prog w) (ktrTop dp un gd cn cs L a ccd cl outer) (call (.ref f) [.ref x]) Q E s :=
  S p loose mean mg mb dp un gd cn cs L a ccd cl outer A₀ base h₀ m s Q E news upd x dx k1 k2 k3 k4 k5 t1 t2 t3 t4 b B F X T hk hd hu N hx U ret
theorem ord_one {y : Addr} {o : Obj} (h : ∀ q ∈ news, q.1 < y) : ∀ q ∈ news, ∀ p ∈ [(y, o)], q.1 < p.1 := fun q hq p hp => by rw [List.mem_singleton.mp hp]; exact h q hq
theorem atom_a {tx : Str} {d i g : Int} {l : List Nat} (hs : Rest tx i (97 :: l)) : RSpec w 556 8 tx d i g (i + 1) g .chr := by
  intro p loose mean mg mb dp un gd cn cs L a ccd cl outer A₀ base h₀ m s Q E news upd x dx k1 k2 k3 k4 k5 t1 t2 t3 t4 b B F X T hk hd hu N hx U ret
  obtain ⟨R, hR, hin, N, back⟩ := Upd_use2 U N
  replace hx := (hin _ hx).resolve_left (fun e => by cases e)
  clear U
  refine wpAny_call ?_
  k_dflt ktr_enter
  k_steps
  exact ret _ _ _ _ _ _ [_] (by k_asm) (back _ _ _ (News3 (by k_asm) (by k_mem) (fun q hq => by k_ownIn) (List.forall_mem_cons.mpr ⟨by k_mem, List.forall_mem_nil _⟩))) (ord_one (lt_new hin (by omega) (by ktn_lt))) (.chr (.head _))
/-- the quantifier: from the place i to i', least and most -/
noncomputable def QSpec (w : World) (n : Nat) (tx : Str) (i i' least : Int) (most : Option Int) : Prop :=
  ∀ (p : Program) (loose : List Str) (mean : ExcName → Option Value) (mg mb : Str → Option Value) (dp un : Nat) (gd : Option (List Code)) (cn : Str) (cs : Scope) (L a : Addr) (ccd : Value) (cl : List (Str × Addr)) (outer : List Env) (A₀ : Around) (base h₀ : Heap) (m : Str → Option Value) (s : Shared) (Q E : Value → Shared → Prop) (news : List (Addr × Obj)) (upd : Obj → List (Addr × Obj)) (x dx : Addr) (k1 k2 k3 k4 k5 t1 t2 : Tok) (g b d : Value),
    Below A₀ base outer h₀ → Fr h₀ L s.heap m → (kk.heap_1 w.params).In h₀ → Top p loose mean mg mb h₀ → cs.kind = .function → dp + n < recursionLimit → un + 8 * n < cLine → News h₀ L s.heap news → (x, instObj 594 dx) ∈ news →
    (∀ o', Upd dx (rdr w k1 k2 k3 k4 k5 (.str tx t1) (.int i t2) g b d) o' news (upd o')) →
    (∀ h' tk t2' y k mv, Fr h₀ L h' m → News h₀ L h' ((y, tup [.int least k, mv]) :: upd (rdr w k1 k2 k3 k4 k5 (.str tx t1) (.int i' t2') g b d)) → (∀ q ∈ news, q.1 < y) → OptV mv most → Q (.ref y) { s with heap := h', toks := tk }) →
    wpAny (model PySem.Challenge.rw_sz0083_01.row.prog w) (ktrTop dp un gd cn cs L a ccd cl outer) (call (.ref 535) [.ref x]) Q E s
theorem QSpec.use {n : Nat} {tx : Str} {i i' least : Int} {most : Option Int} {x dx : Addr} {k1 k2 k3 k4 k5 t1 t2 : Tok} {g b d : Value}
    (B : Below A₀ base outer h₀) (F : Fr h₀ L s.heap m) (X : (kk.heap_1 w.params).In h₀) (T : Top p loose mean mg mb h₀) (hk : cs.kind = .function) (hd : dp + n < recursionLimit) (hu : un + 8 * n < cLine) (N : News h₀ L s.heap news) (hx : (x, instObj 594 dx) ∈ news) (U : ∀ o', Upd dx (rdr w k1 k2 k3 k4 k5 (.str tx t1) (.int i t2) g b d) o' news (upd o')) (S : QSpec w n tx i i' least most) (ret : ∀ h' tk t2' y k mv, Fr h₀ L h' m → News h₀ L h' ((y, tup [.int least k, mv]) :: upd (rdr w k1 k2 k3 k4 k5 (.str tx t1) (.int i' t2') g b d)) → (∀ q ∈ news, q.1 < y) → OptV mv most → Q (.ref y) { s with heap := h', toks := tk }) :
    wpAny (model PySem.Challenge.rw_sz0083_01.row.prog w) (ktrTop dp un gd cn cs L a ccd cl outer) (call (.ref 535) [.ref x]) Q E s :=
  S p loose mean mg mb dp un gd cn cs L a ccd cl outer A₀ base h₀ m s Q E news upd x dx k1 k2 k3 k4 k5 t1 t2 g b d B F X T hk hd hu N hx U ret
theorem q1 {tx : Str} {i : Int} {c : Nat} {l : List Nat} (hs : Rest tx i (123 :: c :: 125 :: l)) (h1 : decide (48 ≤ c ∧ c ≤ 57) = true) : QSpec w 12 tx i (i + 1 + 1 + 1) ((c : Int) - 48) (some ((c : Int) - 48)) := by
  intro p loose mean mg mb dp un gd cn cs L a ccd cl outer A₀ base h₀ m s Q E news upd x dx k1 k2 k3 k4 k5 t1 t2 g b d B F X T hk hd hu N hx U ret
  exact often_c B F X T hk hd hu N hx U hs h1 (by decide) (.one rfl) ret
theorem q2 {tx : Str} {i : Int} {c e : Nat} {l : List Nat} (hs : Rest tx i (123 :: c :: 44 :: e :: 125 :: l)) (h1 : decide (48 ≤ c ∧ c ≤ 57) = true) (h2 : decide (48 ≤ e ∧ e ≤ 57) = true) (h3 : c ≤ e) : QSpec w 12 tx i (i + 1 + 1 + 1 + 1 + 1) ((c : Int) - 48) (some ((e : Int) - 48)) := by
  intro p loose mean mg mb dp un gd cn cs L a ccd cl outer A₀ base h₀ m s Q E news upd x dx k1 k2 k3 k4 k5 t1 t2 g b d B F X T hk hd hu N hx U ret
  exact often_c B F X T hk hd hu N hx U hs h1 (by decide) (.two rfl rfl h2 h3) ret
theorem q3 {tx : Str} {i : Int} {c : Nat} {l : List Nat} (hs : Rest tx i (123 :: c :: 44 :: 125 :: l)) (h1 : decide (48 ≤ c ∧ c ≤ 57) = true) : QSpec w 12 tx i (i + 1 + 1 + 1 + 1) ((c : Int) - 48) none := by
  intro p loose mean mg mb dp un gd cn cs L a ccd cl outer A₀ base h₀ m s Q E news upd x dx k1 k2 k3 k4 k5 t1 t2 g b d B F X T hk hd hu N hx U ret
  exact often_c B F X T hk hd hu N hx U hs h1 (by decide) (.opn rfl rfl) ret
section
theorem kw6 : True := by
  k_with "m call ref" => (((k_here; k_dflt (show wpAny _ _ (call (Value.ref 535) _) _ _ _); k_dflt (refine' QSpec.use ?B ?F ?X ?T ?hk ?hd ?hu ?N ?mq1 ?uq2 ?pq3 ?_; k_extra "w kpf_c"; (case N => k_asm); (case mq1 => k_mem); (case uq2 => (intro o'; k_upd)); (case pq3 => assumption); k_extra "w kcf_m"); intro h' tk' t2' y' ky' mv' F' N' l1 ov'; k_extra "w kbo_bools"); k_extra "w kwd_same0"))
  k_with "m call ref" => (((k_here; k_dflt (show wpAny _ _ (call (Value.ref _) _) _ _ _); k_dflt (refine' RSpec.use ?B ?F ?X ?T ?hk ?hd ?hu ?N ?mq1 ?uq2 ?pq3 ?_; k_extra "w kpf_c"; (case N => k_asm); (case mq1 => k_mem); (case uq2 => (intro o'; k_upd)); (case pq3 => assumption); k_extra "w kcf_m"); intro h' tk' t2' t3' t4' v' tl' F' N' q1' ti'; k_extra "w kbo_bools"); k_extra "w kwd_same0"))
  trivial
theorem unr_end {L : Addr} {i : Addr} {o : Obj} {b : Addr × Obj} {R all : List (Addr × Obj)} {rest : (Str → Option Value) → List (Addr × Obj) → Prop} {s₁ : Shared} {h' : Heap} {tk : Nat} {m' : Str → Option Value} (F : Fr h₀ L h' m') (N : News h₀ L h' all)
    (hb : b ∈ all) (hi : (i, o) ∈ all) (hR : ∀ q ∈ R, q ∈ all) (h1 : @LT.lt Nat _ b.1 i) (h2 : AllLt i R) (r : rest m' (b :: R)) : UnrEndW h₀ L s₁ [(i, o)] rest { s₁ with heap := h', toks := tk } :=
  ⟨h', tk, m', b :: R, rfl, F, fun p hp => by
    rcases List.mem_cons.mp hp with rfl | hp
    · exact N _ hi
    rcases List.mem_cons.mp hp with rfl | hp
    · exact N _ hb
    · exact N _ (hR p hp), fun p hp q hq => by
    rw [List.mem_singleton.mp hq]
    rcases List.mem_cons.mp hp with rfl | hp
    · exact Nat.ne_of_lt h1
    · exact Nat.ne_of_lt (ktn_ltOf h2 p hp), r⟩
theorem ord_cons {y : Addr} {o : Obj} {tl : List (Addr × Obj)} (h1 : ∀ q ∈ news, q.1 < y) (h2 : ∀ q ∈ news, ∀ p ∈ tl, q.1 < p.1) : ∀ q ∈ news, ∀ p ∈ (y, o) :: tl, q.1 < p.1 := fun q hq p hp => by
  rcases List.mem_cons.mp hp with rfl | hp
  · exact h1 q hq
  · exact h2 q hq p hp
theorem ord_news {dx : Addr} {o o' : Obj} {R l tl : List (Addr × Obj)} (hin : ∀ q ∈ news, q = (dx, o) ∨ q ∈ R) (h : ∀ q ∈ l, ∀ p ∈ tl, q.1 < p.1) (hd : (dx, o') ∈ l) (hR : ∀ q ∈ R, q ∈ l) : ∀ q ∈ news, ∀ p ∈ tl, q.1 < p.1 := fun q hq p hp => by
  rcases hin q hq with rfl | h9
  · exact h _ hd p hp
  · exact h q (hR q h9) p hp
set_option hygiene false in
noncomputable def NoWord (l : List Nat) (wd : Str) : Prop := (⟨(l.take wd.length).toArray⟩ : Str) ≠ wd
inductive QmSh (l2 : List Nat) (i2 : Int) : Bool → Int → Prop where
  | no : (⟨(l2.take (Str.ofString "?").length).toArray⟩ : Str) ≠ Str.ofString "?" → QmSh l2 i2 false i2
  | yes {l : List Nat} : l2 = 63 :: l → QmSh l2 i2 true (i2 + 1)
theorem term_c {tx : Str} {n : Nat} {d i g i1 g1 i2 i3 least : Int} {lz : Bool} {most : Option Int} {l l2 : List Nat} {T' : Tr} (hn : 16 ≤ n) (hs : Rest tx i l)
    (w1 : (⟨(l.take (Str.ofString "^").length).toArray⟩ : Str) ≠ Str.ofString "^") (w2 : (⟨(l.take (Str.ofString "$").length).toArray⟩ : Str) ≠ Str.ofString "$")
    (w3 : (⟨(l.take (Str.ofString "\\b").length).toArray⟩ : Str) ≠ Str.ofString "\\b") (w4 : (⟨(l.take (Str.ofString "\\B").length).toArray⟩ : Str) ≠ Str.ofString "\\B")
    (w5 : (⟨(l.take (Str.ofString "(?=").length).toArray⟩ : Str) ≠ Str.ofString "(?=") (w6 : (⟨(l.take (Str.ofString "(?!").length).toArray⟩ : Str) ≠ Str.ofString "(?!")
    (SA : RSpec w 556 n tx d i g i1 g1 T') (SQ : QSpec w 12 tx i1 i2 least most) (hs2 : Rest tx i2 l2) (sh : QmSh l2 i2 lz i3) :
    RSpec w 521 (n + 2) tx d i g i3 g1 (.rep least most lz T' (g + 1) (g1 + 1)) := by
  k_with "m UnrEndW" => ((fail_if_success (have z9 := @off9)); (k_dflt (refine' unr_end (b := (dx, _)) (R := R) ?F ?N ?hb ?hi ?hR ?h1 ?h2 ?_; (case F => k_asm); (case N => k_asm); (case hb => k_mem); (case hi => k_mem); (case hR => exact fun q hq => by k_ownIn); (case h1 => (dsimp only; omega)); (case h2 => ktn_lt)); refine And.intro (by k_subL) ?_))
  intro p loose mean mg mb dp un gd cn cs L a ccd cl outer A₀ base h₀ m s Q E news upd x dx k1 k2 k3 k4 k5 t1 t2 t3 t4 b B F X T hk hd hu N hx U ret
  obtain ⟨R, hR, hin, N, back⟩ := Upd_use2 U N
  replace hx := (hin _ hx).resolve_left (fun e => by cases e)
  clear U
  refine wpAny_call ?_
  k_dflt ktr_enter
  k_steps
  cases sh with
  | no w7 =>
    refine Halt.on ?_
    k_steps
    refine' ret _ _ _ _ _ _ (_ :: _) (by k_asm) ?hb ?ho (.rep (.head _) (by assumption) (TreeIn.mono (by assumption) (fun q hq => .tail _ hq)))
    case hb => exact back _ _ _ (News3 (by k_asm) (by k_mem) (fun q hq => by k_ownIn) (List.forall_mem_cons.mpr ⟨by k_mem, fun q hq => by k_ownIn⟩))
    case ho => exact ord_cons (lt_new hin (by omega) (by ktn_lt)) (ord_news hin (by assumption) (by k_mem) (fun q hq => by k_ownIn))
  | yes e =>
    subst e
    refine Halt.on ?_
    k_steps
    refine' ret _ _ _ _ _ _ (_ :: _) (by k_asm) ?hb ?ho (.rep (.head _) (by assumption) (TreeIn.mono (by assumption) (fun q hq => .tail _ hq)))
    case hb => exact back _ _ _ (News3 (by k_asm) (by k_mem) (fun q hq => by k_ownIn) (List.forall_mem_cons.mpr ⟨by k_mem, fun q hq => by k_ownIn⟩))
    case ho => exact ord_cons (lt_new hin (by omega) (by ktn_lt)) (ord_news hin (by assumption) (by k_mem) (fun q hq => by k_ownIn))
theorem term_n {tx : Str} {n : Nat} {d i g i1 g1 i2 least : Int} {most : Option Int} {l l2 : List Nat} {T' : Tr} (hn : 16 ≤ n) (hs : Rest tx i l)
    (w1 : (⟨(l.take (Str.ofString "^").length).toArray⟩ : Str) ≠ Str.ofString "^") (w2 : (⟨(l.take (Str.ofString "$").length).toArray⟩ : Str) ≠ Str.ofString "$")
    (w3 : (⟨(l.take (Str.ofString "\\b").length).toArray⟩ : Str) ≠ Str.ofString "\\b") (w4 : (⟨(l.take (Str.ofString "\\B").length).toArray⟩ : Str) ≠ Str.ofString "\\B")
    (w5 : (⟨(l.take (Str.ofString "(?=").length).toArray⟩ : Str) ≠ Str.ofString "(?=") (w6 : (⟨(l.take (Str.ofString "(?!").length).toArray⟩ : Str) ≠ Str.ofString "(?!")
    (SA : RSpec w 556 n tx d i g i1 g1 T') (SQ : QSpec w 12 tx i1 i2 least most) (hs2 : Rest tx i2 l2) (w7 : (⟨(l2.take (Str.ofString "?").length).toArray⟩ : Str) ≠ Str.ofString "?") :
    RSpec w 521 (n + 2) tx d i g i2 g1 (.rep least most false T' (g + 1) (g1 + 1)) :=
  term_c hn hs w1 w2 w3 w4 w5 w6 SA SQ hs2 (.no w7)
theorem term_z {tx : Str} {n : Nat} {d i g i1 g1 i2 least : Int} {most : Option Int} {l l2 : List Nat} {T' : Tr} (hn : 16 ≤ n) (hs : Rest tx i l)
    (w1 : (⟨(l.take (Str.ofString "^").length).toArray⟩ : Str) ≠ Str.ofString "^") (w2 : (⟨(l.take (Str.ofString "$").length).toArray⟩ : Str) ≠ Str.ofString "$")
    (w3 : (⟨(l.take (Str.ofString "\\b").length).toArray⟩ : Str) ≠ Str.ofString "\\b") (w4 : (⟨(l.take (Str.ofString "\\B").length).toArray⟩ : Str) ≠ Str.ofString "\\B")
    (w5 : (⟨(l.take (Str.ofString "(?=").length).toArray⟩ : Str) ≠ Str.ofString "(?=") (w6 : (⟨(l.take (Str.ofString "(?!").length).toArray⟩ : Str) ≠ Str.ofString "(?!")
    (SA : RSpec w 556 n tx d i g i1 g1 T') (SQ : QSpec w 12 tx i1 i2 least most) (hs2 : Rest tx i2 (63 :: l2)) :
    RSpec w 521 (n + 2) tx d i g (i2 + 1) g1 (.rep least most true T' (g + 1) (g1 + 1)) :=
  term_c hn hs w1 w2 w3 w4 w5 w6 SA SQ hs2 (.yes rfl)
end
theorem off9 : True := trivial
noncomputable def isEnd (x : Str) : Bool := [Str.ofString "", Str.ofString "|", Str.ofString ")"].any (· == x)
theorem notin_ends {prog : Program} {A : Around} {y : Addr} {x : Str} {t a b c : Tok} (ht : IsTup s.heap y [Value.str (Str.ofString "") a, Value.str (Str.ofString "|") b, Value.str (Str.ofString ")") c].toArray) (h : Q (.bool (!isEnd x)) s) :
    wpAny (model prog w) A (compareOp .NotIn (.str x t) (.ref y)) Q E s :=
  notin_tuple_strs (ys := [Str.ofString "", Str.ofString "|", Str.ofString ")"]) ht (by repeat constructor) h
theorem alt1 {tx : Str} {n : Nat} {d i g i1 g1 : Int} {l l1 : List Nat} {T1 : Tr} (hs : Rest tx i l) (hs1 : Rest tx i1 l1) (hn : 16 ≤ n) (e : (!isEnd ⟨(l.take 1).toArray⟩) = true) (e1 : (!isEnd ⟨(l1.take 1).toArray⟩) = false)
    (S1 : RSpec w 521 n tx d i g i1 g1 T1) : RSpec w 514 (n + 2) tx d i g i1 g1 (.seq1 T1) := by
  k_with "m compareOp NotIn str ref" => ((k_here; k_dflt (refine' notin_ends (tupK ?X ?l) ?_; (case X => k_in); (case l => k_is))))
  intro p loose mean mg mb dp un gd cn cs L a ccd cl outer A₀ base h₀ m s Q E news upd x dx k1 k2 k3 k4 k5 t1 t2 t3 t4 b B F X T hk hd hu N hx U ret
  obtain ⟨R, hR, hin, N, back⟩ := Upd_use2 U N
  replace hx := (hin _ hx).resolve_left (fun e => by cases e)
  clear U
  refine wpAny_call ?_
  k_dflt ktr_enter
  k_steps
  refine' ret _ _ _ _ _ _ (_ :: _ :: _) (by k_asm) ?hb ?ho (.seq1 (.head _) (.tail _ (.head _)) (TreeIn.mono (by assumption) (fun q hq => .tail _ (.tail _ hq))))
  case hb => exact back _ _ _ (News3 (by k_asm) (by k_mem) (fun q hq => by k_ownIn) (List.forall_mem_cons.mpr ⟨by k_mem, List.forall_mem_cons.mpr ⟨by k_mem, fun q hq => by k_ownIn⟩⟩))
  case ho => exact ord_cons (lt_new hin (by omega) (by ktn_lt)) (ord_cons (lt_new hin (by omega) (by ktn_lt)) (ord_news hin (by assumption) (by k_mem) (fun q hq => by k_ownIn)))
theorem ord_app {tl tl' : List (Addr × Obj)} (h1 : ∀ q ∈ news, ∀ p ∈ tl, q.1 < p.1) (h2 : ∀ q ∈ news, ∀ p ∈ tl', q.1 < p.1) : ∀ q ∈ news, ∀ p ∈ tl ++ tl', q.1 < p.1 := fun q hq p hp => by
  rcases List.mem_append.mp hp with hp | hp
  · exact h1 q hq p hp
  · exact h2 q hq p hp
theorem alt2 {tx : Str} {n : Nat} {d i g i1 g1 i2 g2 : Int} {l l1 l2 : List Nat} {T1 T2 : Tr} (hs : Rest tx i l) (hs1 : Rest tx i1 l1) (hs2 : Rest tx i2 l2) (hn : 16 ≤ n) (e : (!isEnd ⟨(l.take 1).toArray⟩) = true) (e1 : (!isEnd ⟨(l1.take 1).toArray⟩) = true) (e2 : (!isEnd ⟨(l2.take 1).toArray⟩) = false)
    (S1 : RSpec w 521 n tx d i g i1 g1 T1) (S2 : RSpec w 521 n tx d i1 g1 i2 g2 T2) : RSpec w 514 (n + 2) tx d i g i2 g2 (.seq2 T1 T2) := by
  intro p loose mean mg mb dp un gd cn cs L a ccd cl outer A₀ base h₀ m s Q E news upd x dx k1 k2 k3 k4 k5 t1 t2 t3 t4 b B F X T hk hd hu N hx U ret
  obtain ⟨R, hR, hin, N, back⟩ := Upd_use2 U N
  replace hx := (hin _ hx).resolve_left (fun e => by cases e)
  clear U
  refine wpAny_call ?_
  k_dflt ktr_enter
  k_steps
  refine' ret _ _ _ _ _ _ (_ :: _ :: (_ ++ _)) (by k_asm) ?hb ?ho (.seq2 (.head _) (.tail _ (.head _)) (TreeIn.mono (by assumption) (fun q hq => .tail _ (.tail _ (List.mem_append_left _ hq)))) (TreeIn.mono (by assumption) (fun q hq => .tail _ (.tail _ (List.mem_append_right _ hq)))))
  case hb => exact back _ _ _ (News3 (by k_asm) (by k_mem) (fun q hq => by k_ownIn) (List.forall_mem_cons.mpr ⟨by k_mem, List.forall_mem_cons.mpr ⟨by k_mem, fun q hq => by k_ownIn⟩⟩))
  case ho => exact ord_cons (lt_new hin (by omega) (by ktn_lt)) (ord_cons (lt_new hin (by omega) (by ktn_lt)) (ord_app (ord_news hin (by assumption) (by k_mem) (fun q hq => by k_ownIn)) (ord_news hin (by assumption) (by k_mem) (fun q hq => by k_ownIn))))
theorem disj {tx : Str} {n : Nat} {d i g i1 g1 : Int} {l1 : List Nat} {T1 : Tr} (hs1 : Rest tx i1 l1) (w1 : (⟨(l1.take (Str.ofString "|").length).toArray⟩ : Str) ≠ Str.ofString "|") (hn : 16 ≤ n)
    (S1 : RSpec w 514 n tx d i g i1 g1 T1) : RSpec w 507 (n + 2) tx d i g i1 g1 T1 := by
  intro p loose mean mg mb dp un gd cn cs L a ccd cl outer A₀ base h₀ m s Q E news upd x dx k1 k2 k3 k4 k5 t1 t2 t3 t4 b B F X T hk hd hu N hx U ret
  obtain ⟨R, hR, hin, N, back⟩ := Upd_use2 U N
  replace hx := (hin _ hx).resolve_left (fun e => by cases e)
  clear U
  refine wpAny_call ?_
  k_dflt ktr_enter
  k_steps
  refine' ret _ _ _ _ _ _ _ (by k_asm) ?hb ?ho (by assumption)
  case hb => exact back _ _ _ (News3 (by k_asm) (by k_mem) (fun q hq => by k_ownIn) (fun q hq => by k_ownIn))
  case ho => exact ord_news hin (by assumption) (by k_mem) (fun q hq => by k_ownIn)
theorem within0 {tx : Str} {n : Nat} {i g i1 g1 : Int} {l1 : List Nat} {T1 : Tr} (hs1 : Rest tx i1 (41 :: l1)) (hn : 16 ≤ n)
    (S1 : RSpec w 507 n tx 1 i g i1 g1 T1) : RSpec w 528 (n + 2) tx 0 i g (i1 + 1) g1 T1 := by
  intro p loose mean mg mb dp un gd cn cs L a ccd cl outer A₀ base h₀ m s Q E news upd x dx k1 k2 k3 k4 k5 t1 t2 t3 t4 b B F X T hk hd hu N hx U ret
  obtain ⟨R, hR, hin, N, back⟩ := Upd_use2 U N
  replace hx := (hin _ hx).resolve_left (fun e => by cases e)
  clear U
  refine wpAny_call ?_
  k_dflt ktr_enter
  k_steps
  refine' ret _ _ _ _ _ _ _ (by k_asm) ?hb ?ho (by assumption)
  case hb => exact back _ _ _ (News3 (by k_asm) (by k_mem) (fun q hq => by k_ownIn) (fun q hq => by k_ownIn))
  case ho => exact ord_news hin (by assumption) (by k_mem) (fun q hq => by k_ownIn)
theorem atom_g {tx : Str} {n : Nat} {i g i1 g1 : Int} {l : List Nat} {T1 : Tr} (hs : Rest tx i (40 :: 63 :: 58 :: l)) (hn : 16 ≤ n)
    (S1 : RSpec w 528 n tx 0 (i + 1 + 2) g i1 g1 T1) : RSpec w 556 (n + 2) tx 0 i g i1 g1 (.grp none T1) := by
  intro p loose mean mg mb dp un gd cn cs L a ccd cl outer A₀ base h₀ m s Q E news upd x dx k1 k2 k3 k4 k5 t1 t2 t3 t4 b B F X T hk hd hu N hx U ret
  obtain ⟨R, hR, hin, N, back⟩ := Upd_use2 U N
  replace hx := (hin _ hx).resolve_left (fun e => by cases e)
  clear U
  have hs1 := hs.next
  refine wpAny_call ?_
  k_dflt ktr_enter
  k_steps
  refine' ret _ _ _ _ _ _ (_ :: _) (by k_asm) ?hb ?ho (.grp (.head _) .none (TreeIn.mono (by assumption) (fun q hq => .tail _ hq)))
  case hb => exact back _ _ _ (News3 (by k_asm) (by k_mem) (fun q hq => by k_ownIn) (List.forall_mem_cons.mpr ⟨by k_mem, fun q hq => by k_ownIn⟩))
  case ho => exact ord_cons (lt_new hin (by omega) (by ktn_lt)) (ord_news hin (by assumption) (by k_mem) (fun q hq => by k_ownIn))
theorem atom_gn {tx : Str} {n : Nat} {i g i1 g1 : Int} {l : List Nat} {T1 : Tr} (hs : Rest tx i (40 :: 97 :: l)) (hn : 16 ≤ n)
    (S1 : RSpec w 528 n tx 0 (i + 1) (g + 1) i1 g1 T1) : RSpec w 556 (n + 2) tx 0 i g i1 g1 (.grp (some (g + 1)) T1) := by
  intro p loose mean mg mb dp un gd cn cs L a ccd cl outer A₀ base h₀ m s Q E news upd x dx k1 k2 k3 k4 k5 t1 t2 t3 t4 b B F X T hk hd hu N hx U ret
  obtain ⟨R, hR, hin, N, back⟩ := Upd_use2 U N
  replace hx := (hin _ hx).resolve_left (fun e => by cases e)
  clear U
  have hs1 := hs.next
  refine wpAny_call ?_
  k_dflt ktr_enter
  k_steps
  refine' ret _ _ _ _ _ _ (_ :: _) (by k_asm) ?hb ?ho (.grp (.head _) .some (TreeIn.mono (by assumption) (fun q hq => .tail _ hq)))
  case hb => exact back _ _ _ (News3 (by k_asm) (by k_mem) (fun q hq => by k_ownIn) (List.forall_mem_cons.mpr ⟨by k_mem, fun q hq => by k_ownIn⟩))
  case ho => exact ord_cons (lt_new hin (by omega) (by ktn_lt)) (ord_news hin (by assumption) (by k_mem) (fun q hq => by k_ownIn))
section
theorem ord_sub {l tl : List (Addr × Obj)} (h : ∀ q ∈ l, ∀ p ∈ tl, q.1 < p.1) (hs : ∀ q ∈ news, q ∈ l) : ∀ q ∈ news, ∀ p ∈ tl, q.1 < p.1 := fun q hq => h q (hs q hq)
theorem iter_none {prog : Program} {A : Around} {env : Env} {x : Str} {body : List Stmt} {Q : Flow → Shared → Prop} {t : Tok} (hh : A.handled = none) (F : Fr h₀ env.locals s.heap m) (N : News h₀ env.locals s.heap news)
    (done : ∀ h' tk, Fr h₀ env.locals h' m → News h₀ env.locals h' news → Q .next { s with heap := h', toks := tk }) :
    wpAny (model prog w) A (pyIter (.str (Str.ofString "") t)) (fun it s₂ => LoopAtV prog w A h₀ env x body Q E it s₂) E s := by
  refine wpAny_pyIter_str fun o St W hst => ?_
  have hz : (Str.ofString "").cps.size = 0 := by decide
  refine ⟨s.heap.objs.size, [s.heap.objs.size], [s.heap.objs.size], (Str.ofString "").cps.size, SignAt (Str.ofString ""), St, m, news, fun _ m' news' => m' = m ∧ news' = news, rfl, W A hh, ?_, ?_, ?_,
    hst, F.push _, fun p hp => ⟨Heap.get?_push_of_some _ (N p hp).1, (N p hp).2⟩, ⟨rfl, rfl⟩, ?_, ?_⟩
  · intro hm
    exact absurd F.ns.lt ((List.mem_singleton.mp hm) ▸ Nat.lt_irrefl _)
  · intro b hb
    rw [List.mem_singleton.mp hb]
    cases e : h₀.get? s.heap.objs.size with
    | none => rfl
    | some o' => exact absurd (Heap.lt_size (F.keep _ _ e)) (Nat.lt_irrefl _)
  · intro p hp hI
    exact absurd (Heap.lt_size (N p hp).1) ((List.mem_singleton.mp hI) ▸ Nat.lt_irrefl _)
  · intro i v m₁ news₁ s₁ own _ hi
    rw [hz] at hi
    exact absurd hi (Nat.not_lt_zero _)
  · rintro h' tk m' news' F' N' ha ⟨rfl, rfl⟩
    exact done h' tk F' N'
theorem flags_c {t : Tok} (B : Below A₀ base outer h₀) (F : Fr h₀ L s.heap m) (X : (kk.heap_1 w.params).In h₀) (T : Top p loose mean mg mb h₀) (hk : cs.kind = .function) (hd : dp + 4 < recursionLimit) (hu : un + 32 < cLine)
    (N : News h₀ L s.heap news)
    (ret : ∀ h' tk v, Fr h₀ L h' m → News h₀ L h' news → Q v { s with heap := h', toks := tk }) :
    wpAny (model PySem.Challenge.rw_sz0083_01.row.prog w) (ktrTop dp un gd cn cs L a ccd cl outer) (call (.ref 458) [.str (Str.ofString "") t]) Q E s := by
  k_with "m exec For Name Name cons nil" => ((fail_if_success (have z9 := @off10)); (k_here; (rename Fr _ _ _ _ => lF'); (with_unfolding_all refine' For_invVF lF' ?k1 ?k2 ?_; (case k1 => exact rfl); (case k2 => exact rfl); k_whole)))
  k_with "m pyIter str" => ((fail_if_success (have z9 := @off10)); (k_here; (with_reducible refine' iter_none ?fq1 ?Fq2 ?Nq3 ?_); k_dflt ((case fq1 => exact rfl); (case Fq2 => k_asm); (case Nq3 => k_asm)); intro h' tk' F' N'; k_extra "w kbo_bools"))
  refine wpAny_call ?_
  k_dflt ktr_enter
  k_steps
  all_goals first | exact ret _ _ _ (by k_asm) (by first | k_asm | exact News_drop (by k_asm)) | k_data | w_report
end
theorem off10 : True := trivial
section
theorem parse_c {tx : Str} {n : Nat} {i1 g1 : Int} {T1 : Tr} {t t' : Tok}
    (B : Below A₀ base outer h₀) (F : Fr h₀ L s.heap m) (X : (kk.heap_1 w.params).In h₀) (T : Top p loose mean mg mb h₀) (hk : cs.kind = .function) (hd : dp + (n + 2) < recursionLimit) (hu : un + 8 * (n + 2) < cLine) (N : News h₀ L s.heap news) (S1 : RSpec w 507 n tx 0 0 0 i1 g1 T1) (hs1 : Rest tx i1 []) (hg : 0 ≤ g1) (hn : 16 ≤ n) (ret : ∀ h' tk y v k tl, Fr h₀ L h' m → News h₀ L h' ((y, tup [v, .int g1 k]) :: (news ++ tl)) → (∀ q ∈ news, q.1 < y) → (∀ q ∈ news, ∀ p ∈ tl, q.1 < p.1) → TreeIn tl v T1 → Q (.ref y) { s with heap := h', toks := tk }) :
    wpAny (model PySem.Challenge.rw_sz0083_01.row.prog w) (ktrTop dp un gd cn cs L a ccd cl outer) (call (.ref 605) [.str tx t, .str (Str.ofString "") t']) Q E s := by
  k_with "m call ref" => ((k_here; k_dflt (show wpAny _ _ (call (Value.ref 458) _) _ _ _); k_dflt (refine' flags_c ?B ?F ?X ?T ?hk ?hd ?hu ?N  ?_; k_extra "w kpf_c"; (case N => k_asm); k_extra "w kcf_m"); intro h' tk' v' F' N'; k_extra "w kbo_bools"))
  k_with "m exec For Name Name cons nil" => ((fail_if_success (have z9 := @off11)); (k_here; (rename Fr _ _ _ _ => lF'); (with_unfolding_all refine' For_invVF lF' ?k1 ?k2 ?_; (case k1 => exact rfl); (case k2 => exact rfl); k_whole)))
  k_with "m pyIter str" => ((fail_if_success (have z9 := @off11)); (k_here; (with_reducible refine' iter_none ?fq1 ?Fq2 ?Nq3 ?_); k_dflt ((case fq1 => exact rfl); (case Fq2 => k_asm); (case Nq3 => k_asm)); intro h' tk' F' N'; k_extra "w kbo_bools"))
  refine wpAny_call ?_
  k_dflt ktr_enter
  k_steps
  refine' ret _ _ _ _ _ _ (by k_asm) ?hb ?h1 ?h2 (by assumption)
  case h1 => exact ktn_ltOf (by ktn_lt)
  case h2 => exact ord_sub (by assumption) (fun q hq => by k_ownIn)
  case hb => exact News_sub (by k_asm) (List.forall_mem_cons.mpr ⟨by k_mem, List.forall_mem_append.mpr ⟨fun q hq => by k_ownIn, fun q hq => by k_ownIn⟩⟩)
end
theorem off11 : True := trivial
end
section
noncomputable abbrev cdict (w : World) (k1 k2 : Tok) (sv lv : Value) : Obj := dictOf [ent w (Str.ofString "steps") k1 sv, ent w (Str.ofString "loops") k2 lv] 2
theorem set_at {prog : Program} {A : Around} {D : Addr} {its : Array Value} {n : Nat} {k : Int} {t : Tok} {v : Value} {Q : Unit → Shared → Prop} {news' : List (Addr × Obj)} (F : Fr h₀ L s.heap m) (N : News h₀ L s.heap news) (U : Upd D (listOf its n) (listOf (its.setIfInBounds k.toNat v) n) news news')
    (h0 : 0 ≤ k) (hfit : k < 2 ^ 63) (h1 : k < its.size) (h : ∀ h', Fr h₀ L h' m → News h₀ L h' news' → Q () { s with heap := h' }) : wpAny (model prog w) A (setItem (.ref D) (.int k t) v) Q E s := by
  k_with_none
  k_with "w R" => first | assumption | (refine' sub_cons ?_; k_extra "w R")
  k_with "w z" => ((try simp only [Array.size_push] at *); first | omega | (rename (Array.size _ = _ + List.length _) => hq9; rw [hq9]; omega) | (simp only [List.size_toArray, List.length_nil, Nat.zero_add]; omega))
  k_with "w kct_strs" => (with_reducible first | assumption | exact And.right (by first | assumption | exact And.right (by first | assumption | exact And.right (by first | assumption | exact And.right (by first | assumption | exact And.right (by first | assumption | exact And.right (by first | assumption | exact And.right (by first | assumption | exact And.right (by first | assumption | exact And.right (by first | assumption | exact And.right (by assumption)))))))))))
  k_with "w kpf_c" => (((case B => k_asm); (case F => k_asm); (case X => k_asm); (case T => k_asm); (case hk => first | rfl | assumption)))
  k_with "w kcf_m" => (((case hd => ktr_room); (case hu => ktr_units)))
  k_with "w kcf_all" => ((k_extra "w kpf_c"; k_extra "w kcf_m"; (case N => k_asm)))
  k_with "w kpf_close" => (((case B => k_asm); (case X => k_asm); (case T => k_asm); k_extra "w kcf_m"; (case N => k_asm)))
  k_with "w kbo_bools" => (((try dsimp only [List.take]); (try dsimp only [List.take] at N'); (try k_lt l1); (try k_lt l2); (try k_sweep)))
  k_with "w kwd_rel" => (((repeat (refine' List.mem_cons_of_mem _ ?_)); first | assumption | (refine' List.mem_append_right _ ?_; kwd_rel) | (refine' List.mem_append_left _ ?_; kwd_rel)))
  k_with "w k_room" => (ktr_room)
  k_with "w k_units" => (ktr_units)
  k_with "w k_all" => (first | with_reducible assumption | exact ord_ne (by with_reducible assumption) (by k_mem) | exact lt_ne (by with_reducible kct_strs) | (refine List.forall_mem_append.mpr ⟨?_, ?_⟩ <;> k_all) | assumption | exact ord_ne (by assumption) (by k_mem) | exact lt_ne (by ktn_lt))
  k_with "w k_mem" => (((repeat (refine' List.mem_cons_of_mem _ ?_)); first | ktr_member | (refine' List.mem_append_left _ ?_; ktr_member) | (refine' List.mem_append_right _ ?_; ktr_member) | (refine' List.mem_append_left _ (List.mem_append_left _ ?_); ktr_member) | (refine' List.mem_append_right _ (List.mem_append_left _ ?_); ktr_member)))
  k_with "w ktn_open" => (first | assumption | exact Rest.next (by k_extra "w ktn_open"))
  k_with "m call ref" => ((k_here; (first | k_dflt (show wpAny _ _ (call (Value.ref 500) [Value.ref _, Value.str _ _]) _ _ _) | k_dflt (show wpAny _ _ (call (Value.ref 366) [Value.ref _, Value.ref _, Value.ref _]) _ _ _)); refine Halt.go ?_))
  k_with "m subscriptTail" => ((k_here; (with_reducible refine' tup_at ?Nq1 ?mq2 ?yq3 ?yq4 ?aq5 ?_ ?gq7); k_dflt ((case Nq1 => k_asm); (case mq2 => k_mem); (case yq3 => first | assumption | decide | kwd_inv); (case yq4 => first | assumption | decide | kwd_inv); (case aq5 => first | assumption | rfl); (case gq7 => (intros; with_unfolding_all rfl))); k_whole))
  k_with "m eval Name" => ((k_here; k_dflt (first | (refine' nameX_L ?F ?v ?_ ?a ?b ?c; (case b => kernel_rfl!); (case F => k_asm); (case a => rfl); (case c => rfl); (case v => rfl); k_whole) | (refine' nameX_K ?F ?X ?T ?e ?_ ?a ?b; (case b => kernel_rfl!); (case F => k_asm); (case X => k_asm); (case T => k_asm); (case a => rfl); (case e => k_is); k_whole))))
  k_with "m storeName" => ((k_here; k_dflt (refine' storeX_L ?F ?N ?_ ?a ?b; (case b => kernel_rfl!); (case F => k_asm); (case N => k_asm); (case a => rfl); k_whole; intro h' F' N'; (try k_sweep))))
  k_with "m ite" => (first | refine ite_pos (by assumption) ?_ | refine ite_neg (by assumption) ?_ | (k_closed; first | refine ite_pos (by decide +kernel) ?_ | refine ite_neg (by decide +kernel) ?_))
  k_with "w ktr_rel" => (first | assumption | (intro h9; injection h9 with h9; injection h9 with h9; first | (cases h9; done) | (simp at h9; done)))
  k_with "w ktr_unf" => (first | exact News1 (by k_asm) (by k_mem) (fun q hq => by k_ownIn) | exact News2 (by k_asm) (by k_mem) (by k_mem) (fun q hq => by k_ownIn))
  k_with "w ktn_lt" => (first | kct_strs | exact (allLt_app (by kct_strs)).1 | assumption)
  k_with "w k_ownIn" => (first | exact List.mem_append_left _ (by assumption) | exact List.mem_append_right _ (by assumption))
  k_with "m call builtin:list.append" => ((k_here; k_dflt (show wpAny _ _ (call (Value.builtin "list.append") [Value.ref _, _]) _ _ _); k_dflt (refine' append_K ?k1 ?k2 ?k3 ?_ ?z; (case k1 => k_asm); (case k2 => k_asm); (case k3 => k_upd); (case z => size_fits); k_whole); intro h' F' N'; (try k_sweep)))
  k_with "w kwd_inv" => (first | assumption | exact Nat.le_of_ble_eq_true rfl | omega | (simp only [List.length_append, List.length_take, List.length_drop, List.length_cons, List.length_nil, List.length_replicate]; omega))
  k_with "w kwd_same0" => (((try simp only [List.cons_append, List.nil_append, List.append_assoc] at N'); (try k_sweep)))
  k_with "w kwd_same1" => (((have hq' := put_size hn' hi'); (try simp only [Array.size_push, List.size_toArray, List.length_nil, Nat.zero_add] at N' hi' hq' hn'); (try dsimp only); k_extra "w kwd_same0"))
  k_with "w kwd_same2" => ((k_here; k_dflt (refine' ld ?F ?v ?_; (case F => k_asm); (case v => assumption); k_whole)))
  k_with "w omega" => (first | (with_reducible first | assumption | exact Nat.le_of_ble_eq_true (by with_unfolding_all rfl) | exact cl_lt (by with_unfolding_all rfl) | exact Nat.le_trans (by assumption) (Nat.le_of_ble_eq_true (by with_unfolding_all rfl)) | exact Nat.lt_of_lt_of_le (by assumption) (Nat.le_of_ble_eq_true (by with_unfolding_all rfl)) | exact Nat.le_trans (Nat.le_of_lt (by assumption)) (Nat.le_of_ble_eq_true (by with_unfolding_all rfl)) | exact eq_le (by assumption) (by assumption) (by with_unfolding_all rfl) | exact eq_lt (by assumption) (by assumption) (by with_unfolding_all rfl) | exact eq_ltt (by assumption) (by assumption) | exact (Int.toNat_of_nonneg (by assumption)).symm | exact Int.not_lt.mpr (by assumption) | exact Ne.symm (by assumption) | exact lt_and (by kct_strs) | exact ne_gt (by assumption) | exact ne_lt (by assumption) | exact ne_gt (And.left (by kct_strs)) | exact ne_lt (And.left (by kct_strs))) | decide +kernel)
  k_with "w ktr_room" => (first | exact rm2 (d := dp) (by with_reducible assumption) (by exact rfl) | exact rm0 (d := dp) (by with_reducible assumption) | exact rm1 (d := dp) (by with_reducible assumption) (by exact rfl) | exact rm3 (d := dp) (by with_reducible assumption) (by exact rfl) | exact rq2 (d := dp) (by with_reducible assumption) (by exact rfl) | exact rq1 (d := dp) (by with_reducible assumption) (by exact rfl) | exact rq3 (d := dp) (by with_reducible assumption) (by exact rfl) | exact rs1 (d := dp) (by with_reducible assumption) (by exact rfl) | exact rs2 (d := dp) (by with_reducible assumption) (by exact rfl) | exact rt1 (d := dp) (by with_reducible assumption) (by exact rfl) | exact rn2 (d := dp) (by with_reducible assumption) (by with_reducible assumption) (by exact rfl) | exact rv1 (d := dp) (by with_reducible assumption) (by exact rfl) | exact ru2 (d := dp) (by with_reducible assumption) (by with_reducible assumption) (by exact rfl) | omega)
  k_with "w ktr_units" => (first | exact rm2 (d := un) (by with_reducible assumption) (by exact rfl) | exact rm0 (d := un) (by with_reducible assumption) | exact rm1 (d := un) (by with_reducible assumption) (by exact rfl) | exact rm3 (d := un) (by with_reducible assumption) (by exact rfl) | exact rq2 (d := un) (by with_reducible assumption) (by exact rfl) | exact rq1 (d := un) (by with_reducible assumption) (by exact rfl) | exact rq3 (d := un) (by with_reducible assumption) (by exact rfl) | exact rs1 (d := un) (by with_reducible assumption) (by exact rfl) | exact rs2 (d := un) (by with_reducible assumption) (by exact rfl) | exact rt1 (d := un) (by with_reducible assumption) (by exact rfl) | exact rn2 (d := un) (by with_reducible assumption) (by with_reducible assumption) (by exact rfl) | exact rv1 (d := un) (by with_reducible assumption) (by exact rfl) | exact ru2 (d := un) (by with_reducible assumption) (by with_reducible assumption) (by exact rfl) | omega)
  obtain ⟨pre, post, rfl, rfl, a, b⟩ := U.split
  have z := N (D, listOf its n) (List.mem_append.mpr (.inr (.head _)))
  exact ki_setAt z.1 h0 hfit (by omega) (h _ (F.change (Heap.SameBut.update ..) z.2.1 z.2.2) (ki_turn _ N a b rfl (by simp)))
theorem emit_c {x dx lst : Addr} {k1 k2 : Tok} {v lv : Value} {its : Array Value} {c : Nat}
    (B : Below A₀ base outer h₀) (F : Fr h₀ L s.heap m) (X : (kk.heap_1 w.params).In h₀) (T : Top p loose mean mg mb h₀) (hk : cs.kind = .function) (hd : dp + 2 < recursionLimit) (hu : un + 16 < cLine)
    (N : News h₀ L s.heap news) (hx : (x, instObj 313 dx) ∈ news) (hx2 : (dx, cdict w k1 k2 (.ref lst) lv) ∈ news) (U : ∀ o', Upd lst (listOf its c) o' news (upd o')) (hz : its.size < 1000)
    (ret : ∀ h' tk t, Fr h₀ L h' m → News h₀ L h' (upd (listOf (its.push v) (c + 1))) → (its.push v).size < 1001 → Q (.int its.size t) { s with heap := h', toks := tk }) :
    wpAny (model PySem.Challenge.rw_sz0083_01.row.prog w) (ktrTop dp un gd cn cs L a ccd cl outer) (call (.ref 275) [.ref x, v]) Q E s := by
  obtain ⟨R, hR, hin, N, back⟩ := Upd_use2 U N
  have hx := (hin _ hx).resolve_left (fun e => by cases e)
  have hx2 := (hin _ hx2).resolve_left (fun e => absurd (show Value.type "dict" = .type "list" from congrArg (fun q : Addr × Obj => q.2.cls) e) (by decide))
  have hz2 : (its.push v).size < 1001 := by rw [Array.size_push]; omega
  clear U
  refine wpAny_call ?_
  k_dflt ktr_enter
  k_steps
  rw [show ((its.push v).size : Int) - 1 = its.size by rw [Array.size_push]; omega]
  exact ret _ _ _ (by k_asm) (by have N9 := back _ _ [] (News3 (by k_asm) (by k_mem) (fun q hq => by k_ownIn) (List.forall_mem_nil _)); rwa [List.append_nil] at N9) hz2
theorem plain_c {x y : Addr} {v : Value} {k k' : Tok} {dx : Addr}
    (B : Below A₀ base outer h₀) (F : Fr h₀ L s.heap m) (X : (kk.heap_1 w.params).In h₀) (T : Top p loose mean mg mb h₀) (hk : cs.kind = .function) (hd : dp + 2 < recursionLimit) (hu : un + 16 < cLine)
    (N : News h₀ L s.heap news) (hx : (x, instObj 313 dx) ∈ news) (hx2 : (y, tup [.str (Str.ofString "char") k, .int 97 k']) ∈ news)
    (ret : ∀ h' tk z t t', Fr h₀ L h' m → News h₀ L h' ((z, tup [.int 0 t, .int 97 t']) :: news) → (∀ q ∈ news, q.1 < z) → Q (.ref z) { s with heap := h', toks := tk }) :
    wpAny (model PySem.Challenge.rw_sz0083_01.row.prog w) (ktrTop dp un gd cn cs L a ccd cl outer) (call (.ref 289) [.ref x, .ref y]) Q E s := by
  k_with "m call ref" => ((k_here; k_dflt (show wpAny _ _ (call (Value.ref 275) _) _ _ _); k_dflt (refine' emit_c ?B ?F ?X ?T ?hk ?hd ?hu ?N ?mq1 ?mq2 ?uq3 ?zq4 ?_; k_extra "w kpf_c"; (case N => k_asm); (case mq1 => k_mem); (case mq2 => k_mem); (case uq3 => (intro o'; k_upd)); (case zq4 => k_extra "w z"); k_extra "w kcf_m"); intro h' tk' t' F' N' hs'; k_extra "w kbo_bools"))
  refine wpAny_call ?_
  k_dflt ktr_enter
  k_steps
  exact ret _ _ _ _ _ (by k_asm) (by k_asm) (ktn_ltOf (by ktn_lt))
inductive Stp where
  | chr
  | loop (k : Int)
  | head (k least : Int) (most : Option Int) (lazy : Bool) (first behind out : Int)
  | tail (k least hd : Int)
  | met
  | opn (g : Int)
  | cls (g : Int)
inductive OptW : Value → Option Int → Prop where
  | none : OptW .none .none
  | some {i : Int} {t : Tok} : OptW (.int i t) (.some i)
inductive StpIn (R : List (Addr × Obj)) : Value → Stp → Prop where
  | chr {y : Addr} {a b : Tok} : (y, tup [.int 0 a, .int 97 b]) ∈ R → StpIn R (.ref y) .chr
  | loop {y : Addr} {a b : Tok} {k : Int} : (y, tup [.int 12 a, .int k b]) ∈ R → StpIn R (.ref y) (.loop k)
  | head {y : Addr} {a b c d e f : Tok} {mv : Value} {k least : Int} {most : Option Int} {lazy : Bool} {first behind out : Int} : (y, tup [.int 13 a, .int k b, .int least c, mv, .bool lazy, .int first d, .int behind e, .int out f]) ∈ R → OptV mv most → StpIn R (.ref y) (.head k least most lazy first behind out)
  | tail {y : Addr} {a b c d : Tok} {k least hd : Int} : (y, tup [.int 14 a, .int k b, .int least c, .int hd d]) ∈ R → StpIn R (.ref y) (.tail k least hd)
  | met {y : Addr} {a : Tok} : (y, tup [.int 15 a]) ∈ R → StpIn R (.ref y) .met
  | opn {y : Addr} {a b : Tok} {g : Int} : (y, tup [.int 6 a, .int g b]) ∈ R → StpIn R (.ref y) (.opn g)
  | cls {y : Addr} {a b : Tok} {g : Int} : (y, tup [.int 7 a, .int g b]) ∈ R → StpIn R (.ref y) (.cls g)
theorem StpIn.mono {R R' : List (Addr × Obj)} {v : Value} {t : Stp} (h : StpIn R v t) (hs : ∀ q ∈ R, q ∈ R') : StpIn R' v t := by
  k_with "m call ref" => ((k_here; k_dflt (show wpAny _ _ (call (Value.ref 289) _) _ _ _); k_dflt (refine' plain_c ?B ?F ?X ?T ?hk ?hd ?hu ?N ?mq1 ?mq2 ?_; k_extra "w kpf_c"; (case N => k_asm); (case mq1 => k_mem); (case mq2 => k_mem); k_extra "w kcf_m"); intro h' tk' z' t' t'' F' N' l1; k_extra "w kbo_bools"))
  cases h with
  | chr h => exact .chr (hs _ h)
  | loop h => exact .loop (hs _ h)
  | head h o => exact .head (hs _ h) o
  | tail h => exact .tail (hs _ h)
  | met h => exact .met (hs _ h)
  | opn h => exact .opn (hs _ h)
  | cls h => exact .cls (hs _ h)
inductive StepsIn (R : List (Addr × Obj)) : List Value → List Stp → Prop where
  | nil : StepsIn R [] []
  | cons {v : Value} {t : Stp} {vs : List Value} {ts : List Stp} : StpIn R v t → StepsIn R vs ts → StepsIn R (v :: vs) (t :: ts)
theorem StepsIn.mono {R R' : List (Addr × Obj)} {vs : List Value} {ts : List Stp} (h : StepsIn R vs ts) (hs : ∀ q ∈ R, q ∈ R') : StepsIn R' vs ts := by
  induction h with
  | nil => exact .nil
  | cons h _ ih => exact .cons (h.mono hs) ih
theorem StepsIn.app {R : List (Addr × Obj)} {vs vs' : List Value} {ts ts' : List Stp} (h : StepsIn R vs ts) (h' : StepsIn R vs' ts') : StepsIn R (vs ++ vs') (ts ++ ts') := by
  induction h with
  | nil => exact h'
  | cons h _ ih => exact .cons h ih
theorem StepsIn.length {R : List (Addr × Obj)} {vs : List Value} {ts : List Stp} (h : StepsIn R vs ts) : vs.length = ts.length := by
  induction h with
  | nil => rfl
  | cons h _ ih => simp [ih]
noncomputable def cmp (n : Nat) (k : Int) : Tr → List Stp × Int
  | .chr => ([.chr], k)
  | .seq1 t => cmp n k t
  | .seq2 t u => ((cmp n k t).1 ++ (cmp (n + (cmp n k t).1.length) (cmp n k t).2 u).1, (cmp (n + (cmp n k t).1.length) (cmp n k t).2 u).2)
  | .grp none t => cmp n k t
  | .grp (some g) t => (.opn g :: ((cmp (n + 1) k t).1 ++ [.cls g]), (cmp (n + 1) k t).2)
  | .rep least most lazy t first behind => (.loop k :: .head k least most lazy first behind (n + 2 + (cmp (n + 1 + 1) (k + 1) t).1.length + 1) :: ((cmp (n + 1 + 1) (k + 1) t).1 ++ [.tail k least (n + 1)]), (cmp (n + 1 + 1) (k + 1) t).2)
noncomputable def Tr.ht : Tr → Nat
  | .chr => 0
  | .seq1 t => t.ht + 1
  | .seq2 t u => t.ht + u.ht + 1
  | .grp _ t => t.ht + 1
  | .rep _ _ _ t _ _ => t.ht + 1
theorem Upd.mem2 {d : Addr} {o o' : Obj} {l l' : List (Addr × Obj)} (U : Upd d o o' l l') : (∀ q ∈ l', q = (d, o') ∨ (q ∈ l ∧ q.1 ≠ d)) ∧ (∀ q ∈ l, q = (d, o) ∨ (q ∈ l' ∧ q.1 ≠ d)) ∧ (d, o) ∈ l ∧ (d, o') ∈ l' := by
  obtain ⟨pre, post, rfl, rfl, a, b⟩ := U.split
  refine ⟨fun q hq => ?_, fun q hq => ?_, List.mem_append_right _ (.head _), List.mem_append_right _ (.head _)⟩
  · rcases List.mem_append.mp hq with h | h
    · exact .inr ⟨List.mem_append_left _ h, a q h⟩
    · rcases List.mem_cons.mp h with h | h
      · exact .inl h
      · exact .inr ⟨List.mem_append_right _ (.tail _ h), b q h⟩
  · rcases List.mem_append.mp hq with h | h
    · exact .inr ⟨List.mem_append_left _ h, a q h⟩
    · rcases List.mem_cons.mp h with h | h
      · exact .inl h
      · exact .inr ⟨List.mem_append_right _ (.tail _ h), b q h⟩
theorem Upd_two {h₀ h : Heap} {L dx lst : Addr} {o l : Obj} {news : List (Addr × Obj)} {u1 : Obj → List (Addr × Obj)} {upd : Obj → Obj → List (Addr × Obj)} (U1 : ∀ o', Upd dx o o' news (u1 o')) (U2 : ∀ o' l', Upd lst l l' (u1 o') (upd o' l')) (N : News h₀ L h news) (hne : dx ≠ lst) :
    ∃ R, (∀ q ∈ R, q.1 ≠ dx) ∧ (∀ q ∈ R, q.1 ≠ lst) ∧ (∀ q ∈ news, q = (dx, o) ∨ q = (lst, l) ∨ q ∈ R) ∧ News h₀ L h ((dx, o) :: (lst, l) :: R) ∧ ∀ h' o' l' tl, News h₀ L h' ((dx, o') :: (lst, l') :: (R ++ tl)) → News h₀ L h' (upd o' l' ++ tl) := by
  refine ⟨news.filter (fun q => decide (q.1 ≠ dx ∧ q.1 ≠ lst)), fun q hq => ?_, fun q hq => ?_, fun q hq => ?_, fun q hq => ?_, fun h' o' l' tl N' q hq => ?_⟩
  · exact (of_decide_eq_true (List.mem_filter.mp hq).2).1
  · exact (of_decide_eq_true (List.mem_filter.mp hq).2).2
  · rcases (Upd.mem2 (U1 o)).2.1 q hq with h | ⟨h, h1⟩
    · exact .inl h
    · rcases (Upd.mem2 (U2 o l)).2.1 q h with h | ⟨_, h2⟩
      · exact .inr (.inl h)
      · exact .inr (.inr (List.mem_filter.mpr ⟨hq, decide_eq_true ⟨h1, h2⟩⟩))
  · rcases List.mem_cons.mp hq with rfl | hq
    · exact N _ (Upd.mem2 (U1 o)).2.2.1
    rcases List.mem_cons.mp hq with rfl | hq
    · rcases (Upd.mem2 (U1 o)).1 _ (Upd.mem2 (U2 o l)).2.2.1 with h | h
      · exact absurd (congrArg Prod.fst h).symm hne
      · exact N _ h.1
    · exact N _ (List.mem_filter.mp hq).1
  · rcases List.mem_append.mp hq with hq | hq
    · rcases (Upd.mem2 (U2 o' l')).1 q hq with rfl | ⟨h, h2⟩
      · exact N' _ (.tail _ (.head _))
      · rcases (Upd.mem2 (U1 o')).1 q h with rfl | ⟨h, h1⟩
        · exact N' _ (.head _)
        · exact N' _ (.tail _ (.tail _ (List.mem_append_left _ (List.mem_filter.mpr ⟨h, decide_eq_true ⟨h1, h2⟩⟩))))
    · exact N' _ (.tail _ (.tail _ (List.mem_append_right _ hq)))
noncomputable def PutSpec (w : World) (T' : Tr) : Prop :=
  ∀ (p : Program) (loose : List Str) (mean : ExcName → Option Value) (mg mb : Str → Option Value) (dp un : Nat) (gd : Option (List Code)) (cn : Str) (cs : Scope) (L a : Addr) (ccd : Value) (cl : List (Str × Addr)) (outer : List Env) (A₀ : Around) (base h₀ : Heap) (m : Str → Option Value) (s : Shared) (Q E : Value → Shared → Prop) (news : List (Addr × Obj)) (u1 : Obj → List (Addr × Obj)) (upd : Obj → Obj → List (Addr × Obj)) (x dx lst : Addr) (k1 k2 t1 : Tok) (its : Array Value) (c : Nat) (k : Int) (v : Value),
    Below A₀ base outer h₀ → Fr h₀ L s.heap m → (kk.heap_1 w.params).In h₀ → Top p loose mean mg mb h₀ → cs.kind = .function → dp + 4 * (T'.ht + 1) < recursionLimit → un + 32 * (T'.ht + 1) < cLine → News h₀ L s.heap news → (x, instObj 313 dx) ∈ news → @Ne Nat dx lst →
    (∀ o', Upd dx (cdict w k1 k2 (.ref lst) (.int k t1)) o' news (u1 o')) → (∀ o' l', Upd lst (listOf its c) l' (u1 o') (upd o' l')) → TreeIn news v T' → its.size + (cmp its.size k T').1.length < 900 →
    (∀ h' tk its' c' t' tl new, Fr h₀ L h' m → News h₀ L h' (upd (cdict w k1 k2 (.ref lst) (.int (cmp its.size k T').2 t')) (listOf its' c') ++ tl) → (∀ q ∈ news, ∀ p ∈ tl, q.1 < p.1) → its'.toList = its.toList ++ new → StepsIn tl new (cmp its.size k T').1 → Q .none { s with heap := h', toks := tk }) →
    wpAny (model PySem.Challenge.rw_sz0083_01.row.prog w) (ktrTop dp un gd cn cs L a ccd cl outer) (call (.ref 282) [.ref x, v]) Q E s
theorem PutSpec.use {T' : Tr} {u1 : Obj → List (Addr × Obj)} {upd : Obj → Obj → List (Addr × Obj)} {x dx lst : Addr} {k1 k2 t1 : Tok} {its : Array Value} {c : Nat} {k : Int} {v : Value}
    (B : Below A₀ base outer h₀) (F : Fr h₀ L s.heap m) (X : (kk.heap_1 w.params).In h₀) (T : Top p loose mean mg mb h₀) (hk : cs.kind = .function) (hd : dp + 4 * (T'.ht + 1) < recursionLimit) (hu : un + 32 * (T'.ht + 1) < cLine) (N : News h₀ L s.heap news) (hx : (x, instObj 313 dx) ∈ news) (U1 : ∀ o', Upd dx (cdict w k1 k2 (.ref lst) (.int k t1)) o' news (u1 o')) (U2 : ∀ o' l', Upd lst (listOf its c) l' (u1 o') (upd o' l')) (hne : @Ne Nat dx lst) (ht : TreeIn news v T') (S : PutSpec w T') (hz : its.size + (cmp its.size k T').1.length < 900) (ret : ∀ h' tk its' c' t' tl new, Fr h₀ L h' m → News h₀ L h' (upd (cdict w k1 k2 (.ref lst) (.int (cmp its.size k T').2 t')) (listOf its' c') ++ tl) → (∀ q ∈ news, ∀ p ∈ tl, q.1 < p.1) → its'.toList = its.toList ++ new → StepsIn tl new (cmp its.size k T').1 → Q .none { s with heap := h', toks := tk }) :
    wpAny (model PySem.Challenge.rw_sz0083_01.row.prog w) (ktrTop dp un gd cn cs L a ccd cl outer) (call (.ref 282) [.ref x, v]) Q E s :=
  S p loose mean mg mb dp un gd cn cs L a ccd cl outer A₀ base h₀ m s Q E news u1 upd x dx lst k1 k2 t1 its c k v B F X T hk hd hu N hx hne U1 U2 ht hz ret
theorem tup_in {dx lst : Addr} {es : List DictEntry} {n c : Nat} {its : Array Value} {R : List (Addr × Obj)} (hin : ∀ q ∈ news, q = (dx, dictOf es n) ∨ q = (lst, listOf its c) ∨ q ∈ R) {y : Addr} {vs : List Value} (h : (y, tup vs) ∈ news) : (y, tup vs) ∈ R := by
  rcases hin _ h with e | e | e
  · exact absurd (show Value.type "tuple" = .type "dict" from congrArg (fun q : Addr × Obj => q.2.cls) e) (by decide)
  · exact absurd (show Value.type "tuple" = .type "list" from congrArg (fun q : Addr × Obj => q.2.cls) e) (by decide)
  · exact e
theorem inst_in {x d C dx lst : Addr} {es : List DictEntry} {n c : Nat} {its : Array Value} {R : List (Addr × Obj)} (hin : ∀ q ∈ news, q = (dx, dictOf es n) ∨ q = (lst, listOf its c) ∨ q ∈ R) (h : (x, instObj C d) ∈ news) : (x, instObj C d) ∈ R := by
  rcases hin _ h with e | e | e
  · exact absurd (show Value.ref C = .type "dict" from congrArg (fun q : Addr × Obj => q.2.cls) e) (by simp)
  · exact absurd (show Value.ref C = .type "list" from congrArg (fun q : Addr × Obj => q.2.cls) e) (by simp)
  · exact e
theorem TreeIn.into {R R' : List (Addr × Obj)} {v : Value} {t : Tr} (h : TreeIn R v t) (hs : ∀ y vs, (y, tup vs) ∈ R → (y, tup vs) ∈ R') : TreeIn R' v t := by
  induction h with
  | chr h => exact .chr (hs _ _ h)
  | rep h o _ ih => exact .rep (hs _ _ h) o ih
  | grp h o _ ih => exact .grp (hs _ _ h) o ih
  | seq1 h h2 _ ih => exact .seq1 (hs _ _ h) (hs _ _ h2) ih
  | seq2 h h2 _ _ ih ih2 => exact .seq2 (hs _ _ h) (hs _ _ h2) ih ih2
theorem ord_two {dx lst : Addr} {o l o' l' : Obj} {R al tl : List (Addr × Obj)} (hin : ∀ q ∈ news, q = (dx, o) ∨ q = (lst, l) ∨ q ∈ R) (h : ∀ q ∈ al, ∀ p ∈ tl, q.1 < p.1) (h1 : (dx, o') ∈ al) (h2 : (lst, l') ∈ al) (h3 : ∀ q ∈ R, q ∈ al) : ∀ q ∈ news, ∀ p ∈ tl, q.1 < p.1 := fun q hq p hp => by
  rcases hin q hq with rfl | rfl | e
  · exact h _ h1 p hp
  · exact h _ h2 p hp
  · exact h q (h3 q e) p hp
theorem lt_two {dx lst y : Addr} {o l : Obj} {R : List (Addr × Obj)} (hin : ∀ q ∈ news, q = (dx, o) ∨ q = (lst, l) ∨ q ∈ R) (h1 : @LT.lt Nat _ dx y) (h2 : @LT.lt Nat _ lst y) (h3 : AllLt y R) : ∀ q ∈ news, q.1 < y := fun q hq => by
  rcases hin q hq with rfl | rfl | e
  · exact h1
  · exact h2
  · exact ktn_ltOf h3 q e
theorem ord_cons' {y : Addr} {o : Obj} {tl : List (Addr × Obj)} (h1 : ∀ q ∈ news, q.1 < y) (h2 : ∀ q ∈ news, ∀ p ∈ tl, q.1 < p.1) : ∀ q ∈ news, ∀ p ∈ (y, o) :: tl, q.1 < p.1 := fun q hq p hp => by
  rcases List.mem_cons.mp hp with rfl | hp
  · exact h1 q hq
  · exact h2 q hq p hp
theorem News4 {h₀ h : Heap} {L : Addr} {a b : Addr × Obj} {l R tl : List (Addr × Obj)} (N : News h₀ L h l) (ha : a ∈ l) (hb : b ∈ l) (hR : ∀ q ∈ R, q ∈ l) (ht : ∀ q ∈ tl, q ∈ l) : News h₀ L h (a :: b :: (R ++ tl)) := fun r hr => by
  rcases List.mem_cons.mp hr with rfl | hr
  · exact N _ ha
  · exact News3 N hb hR ht r hr
theorem put_size {R : List (Addr × Obj)} {its its' : Array Value} {new : List Value} {ts : List Stp} (hn : its'.toList = its.toList ++ new) (hi : StepsIn R new ts) : its'.size = its.size + ts.length := by
  rw [← Array.length_toList, hn, List.length_append, hi.length, Array.length_toList]
theorem put_chr : PutSpec w .chr := by
  intro p loose mean mg mb dp un gd cn cs L a ccd cl outer A₀ base h₀ m s Q E news u1 upd x dx lst k1 k2 t1 its c k v B F X T hk hd hu N hx hne U1 U2 ht hz ret
  obtain ⟨R, hR1, hR2, hin, N, back⟩ := Upd_two U1 U2 N hne
  replace hx := inst_in hin hx
  replace ht := ht.into (fun y vs => tup_in hin)
  clear U1 U2
  simp only [cmp, Tr.ht, List.length_cons, List.length_nil] at hz hd hu ret
  cases ht with
  | @chr y kc kc' hm =>
  refine wpAny_call ?_
  k_dflt ktr_enter
  k_steps
  refine' ret _ _ _ _ _ (_ :: []) [.ref _] (by k_asm) ?hb ?ho ?ha (.cons (.chr (.head _)) .nil)
  case hb => exact back _ _ _ _ (News4 (by k_asm) (by k_mem) (by k_mem) (fun q hq => by k_ownIn) (List.forall_mem_cons.mpr ⟨by k_mem, List.forall_mem_nil _⟩))
  case ho => exact ord_cons' (lt_two hin (by omega) (by omega) (by ktn_lt)) (fun _ _ _ h => nomatch h)
  case ha => simp
theorem put_grp0 {T1 : Tr} (S1 : PutSpec w T1) : PutSpec w (.grp none T1) := by
  k_with "m call ref" => (((k_here; k_dflt (show wpAny _ _ (call (Value.ref 282) _) _ _ _); k_dflt (refine' PutSpec.use ?B ?F ?X ?T ?hk ?hd ?hu ?N ?mq1 ?uq2 ?vq3 ?nq4 ?tq5 ?pq6 ?zq7 ?_; k_extra "w kpf_c"; (case N => k_asm); (case mq1 => k_mem); (case uq2 => (intro o'; k_upd)); (case vq3 => (intro o' l'; k_upd)); (case nq4 => first | assumption | omega | exact Nat.ne_of_lt (And.left (And.right (by assumption))) | exact Nat.ne_of_lt (And.left (by assumption))); (case tq5 => exact TreeIn.mono (by assumption) (fun q hq => by kwd_rel)); (case pq6 => assumption); (case zq7 => k_extra "w z"); k_extra "w kcf_m"); intro h' tk' its' c' t' tl' new' F' N' l1 hn' hi'; k_extra "w kbo_bools"); k_extra "w kwd_same1"))
  intro p loose mean mg mb dp un gd cn cs L a ccd cl outer A₀ base h₀ m s Q E news u1 upd x dx lst k1 k2 t1 its c k v B F X T hk hd hu N hx hne U1 U2 ht hz ret
  obtain ⟨R, hR1, hR2, hin, N, back⟩ := Upd_two U1 U2 N hne
  replace hx := inst_in hin hx
  replace ht := ht.into (fun y vs => tup_in hin)
  clear U1 U2
  simp only [cmp, Tr.ht] at hz hd hu ret
  cases ht with
  | @grp y kc mv v1 _ _ hm ho ht =>
  cases ho
  refine wpAny_call ?_
  k_dflt ktr_enter
  k_steps
  refine' ret _ _ _ _ _ _ _ (by k_asm) ?hb ?ho (by assumption) (by assumption)
  case hb => exact back _ _ _ _ (News4 (by k_asm) (by k_mem) (by k_mem) (fun q hq => by k_ownIn) (fun q hq => by k_ownIn))
  case ho => exact ord_two hin (by assumption) (by k_mem) (by k_mem) (fun q hq => by k_ownIn)
theorem put_grpn {T1 : Tr} {g : Int} (S1 : PutSpec w T1) : PutSpec w (.grp (some g) T1) := by
  intro p loose mean mg mb dp un gd cn cs L a ccd cl outer A₀ base h₀ m s Q E news u1 upd x dx lst k1 k2 t1 its c k v B F X T hk hd hu N hx hne U1 U2 ht hz ret
  obtain ⟨R, hR1, hR2, hin, N, back⟩ := Upd_two U1 U2 N hne
  replace hx := inst_in hin hx
  replace ht := ht.into (fun y vs => tup_in hin)
  clear U1 U2
  simp only [cmp, Tr.ht, List.length_cons, List.length_append, List.length_nil] at hz hd hu ret
  cases ht with
  | @grp y kc mv v1 _ _ hm ho ht =>
  cases ho
  refine wpAny_call ?_
  k_dflt ktr_enter
  k_steps
  rename (Array.toList _ = Array.toList _ ++ _) => hn
  rename (StepsIn _ _ _) => hi
  refine' ret _ _ _ _ _ (_ :: _ :: _) (_ :: (_ ++ [_])) (by k_asm) ?hb ?ho ?ha (.cons (.opn (.tail _ (.head _))) ((hi.mono (fun q hq => .tail _ (.tail _ hq))).app (.cons (.cls (.head _)) .nil)))
  case hb => exact back _ _ _ _ (News4 (by k_asm) (by k_mem) (by k_mem) (fun q hq => by k_ownIn) (List.forall_mem_cons.mpr ⟨by k_mem, List.forall_mem_cons.mpr ⟨by k_mem, fun q hq => by k_ownIn⟩⟩))
  case ho => exact ord_cons' (lt_two hin (by omega) (by omega) (by ktn_lt)) (ord_cons' (lt_two hin (by omega) (by omega) (by ktn_lt)) (ord_two hin (by assumption) (by k_mem) (by k_mem) (fun q hq => by k_ownIn)))
  case ha => rw [Array.toList_push, hn, Array.toList_push]; simp
theorem tup_from {prog : Program} {A : Around} {value slice : PySem.Expr} {t : Addr} {vs : List Value} {i : Int} {a : Nat} {u : Tok} (F : Fr h₀ L s.heap m) (N : News h₀ L s.heap news) (hm : (t, tup vs) ∈ news) (hi : i = (a : Int)) (h1 : 1 ≤ a) (ha : a ≤ vs.length) (hz : vs.length ≤ 1000)
    (h : ∀ D h', Fr h₀ L h' m → News h₀ L h' ((D, tup (vs.drop a)) :: news) → (∀ p ∈ news, p.1 < D) → Q (.ref D) { s with heap := h' })
    (hs : subscripted slice false (.ref t) (.ref s.heap.objs.size) = operate [.ref s.heap.objs.size, .ref t] (getItem (.ref t) (.ref s.heap.objs.size)))
    (hg : ∀ r, letTemporaryGo value (.ref t) r = pure ()) :
    wpAny (model prog w) A (subscriptTail value slice (.ref t) (.ref s.heap.objs.size)) Q E { s with heap := s.heap.push { cls := .type "slice", data := .fields #[.int i u, .none, .none] } } := by
  subst hi
  refine slice_tuple_from F N (News.isTup N hm) h1 (by simpa using ha) (fun h' F' N' => ?_) hs hg (by rw [List.size_toArray]; size_fits)
  rw [List.toList_toArray] at N'
  exact h _ h' F' N' (fun p hp => Nat.lt_succ_of_lt (Heap.lt_size (N p hp).1))
theorem tup_from1 {prog : Program} {A : Around} {value slice : PySem.Expr} {t : Addr} {x : Value} {vs : List Value} {u : Tok} (F : Fr h₀ L s.heap m) (N : News h₀ L s.heap news) (hm : (t, tup (x :: vs)) ∈ news) (hz : (x :: vs).length ≤ 1000)
    (h : ∀ D h', Fr h₀ L h' m → News h₀ L h' ((D, tup vs) :: news) → (∀ p ∈ news, p.1 < D) → Q (.ref D) { s with heap := h' })
    (hs : subscripted slice false (.ref t) (.ref s.heap.objs.size) = operate [.ref s.heap.objs.size, .ref t] (getItem (.ref t) (.ref s.heap.objs.size)))
    (hg : ∀ r, letTemporaryGo value (.ref t) r = pure ()) :
    wpAny (model prog w) A (subscriptTail value slice (.ref t) (.ref s.heap.objs.size)) Q E { s with heap := s.heap.push { cls := .type "slice", data := .fields #[.int 1 u, .none, .none] } } :=
  tup_from (a := 1) F N hm rfl (by omega) (by simp) hz h hs hg
theorem tup_from2 {prog : Program} {A : Around} {value slice : PySem.Expr} {t : Addr} {x y : Value} {vs : List Value} {u : Tok} (F : Fr h₀ L s.heap m) (N : News h₀ L s.heap news) (hm : (t, tup (x :: y :: vs)) ∈ news) (hz : (x :: y :: vs).length ≤ 1000)
    (h : ∀ D h', Fr h₀ L h' m → News h₀ L h' ((D, tup vs) :: news) → (∀ p ∈ news, p.1 < D) → Q (.ref D) { s with heap := h' })
    (hs : subscripted slice false (.ref t) (.ref s.heap.objs.size) = operate [.ref s.heap.objs.size, .ref t] (getItem (.ref t) (.ref s.heap.objs.size)))
    (hg : ∀ r, letTemporaryGo value (.ref t) r = pure ()) :
    wpAny (model prog w) A (subscriptTail value slice (.ref t) (.ref s.heap.objs.size)) Q E { s with heap := s.heap.push { cls := .type "slice", data := .fields #[.int 2 u, .none, .none] } } :=
  tup_from (a := 2) F N hm rfl (by omega) (by simp) hz h hs hg
theorem kw7 : True := by
  k_with "m subscriptTail Name Slice ref ref" => ((k_here; k_dflt (first
  | (refine' tup_from1 (s := ⟨_, _, _, _, _⟩) ?F ?N ?hm ?hz ?_ ?hs ?hg; (case F => k_asm); (case N => k_asm); (case hm => k_mem); (case hz => (simp only [List.length_cons, List.length_nil]; omega)); (case hs => with_unfolding_all rfl); (case hg => intro _; with_unfolding_all rfl))
  | (refine' tup_from2 (s := ⟨_, _, _, _, _⟩) ?F ?N ?hm ?hz ?_ ?hs ?hg; (case F => k_asm); (case N => k_asm); (case hm => k_mem); (case hz => (simp only [List.length_cons, List.length_nil]; omega)); (case hs => with_unfolding_all rfl); (case hg => intro _; with_unfolding_all rfl))); intro D' h' F' N' l1; (try k_lt l1); (try k_sweep)))
  k_with "m setItem ref int ref" => ((k_here; (with_reducible refine' set_at ?Fq1 ?Nq2 ?kq3 ?yq4 ?zq5 ?zq6 ?_); k_dflt ((case Fq1 => k_asm); (case Nq2 => k_asm); (case kq3 => k_upd); (case yq4 => first | assumption | decide | kwd_inv); (case zq5 => k_extra "w z"); (case zq6 => k_extra "w z")); intro h' F' N'; k_extra "w kbo_bools"))
  trivial
theorem len_lst {prog : Program} {A : Around} {l : Addr} {its : Array Value} {c : Nat} (N : News h₀ L s.heap news) (hm : (l, listOf its c) ∈ news) (hz : its.size < 1001) (h : ∀ tk t, Q (.int its.size t) { s with toks := tk }) :
    wpAny (model prog w) A (call (.builtin "len") [.ref l]) Q E s := len_list (News.isList N hm) (by omega) (h _ _)
theorem set_list {its itsA : Array Value} {a b c : Value} {new : List Value} (hn : itsA.toList = ((its.push a).push .none).toList ++ new) : ((itsA.push c).setIfInBounds ((its.size : Int) + 1).toNat b).toList = its.toList ++ (a :: b :: (new ++ [c])) := by
  k_with "m call builtin:len" => ((k_here; (with_reducible refine' len_lst ?Nq1 ?mq2 ?pq3 ?_); k_dflt ((case Nq1 => k_asm); (case mq2 => k_mem); (case pq3 => assumption)); intro tk' t'; k_extra "w kbo_bools"))
  rw [show ((its.size : Int) + 1).toNat = its.size + 1 by omega, Array.toList_setIfInBounds, Array.toList_push, hn, Array.toList_push, Array.toList_push]
  simp [List.set_append]
theorem head_out {R : List (Addr × Obj)} {its itsA : Array Value} {a b : Value} {new : List Value} {ts : List Stp} (hn : itsA.toList = ((its.push a).push b).toList ++ new) (hi : StepsIn R new ts) (v : Value) : ((itsA.push v).size : Int) = (its.size : Int) + 2 + (ts.length : Int) + 1 := by
  have := put_size hn hi
  simp only [Array.size_push] at this ⊢
  omega
theorem push_cast {its : Array Value} (v : Value) : ((its.push v).size : Int) = (its.size : Int) + 1 := by simp
theorem put_rep {T1 : Tr} {least : Int} {most : Option Int} {lazy : Bool} {first behind : Int} (S1 : PutSpec w T1) : PutSpec w (.rep least most lazy T1 first behind) := by
  intro p loose mean mg mb dp un gd cn cs L a ccd cl outer A₀ base h₀ m s Q E news u1 upd x dx lst k1 k2 t1 its c k v B F X T hk hd hu N hx hne U1 U2 ht hz ret
  obtain ⟨R, hR1, hR2, hin, N, back⟩ := Upd_two U1 U2 N hne
  replace hx := inst_in hin hx
  replace ht := ht.into (fun y vs => tup_in hin)
  clear U1 U2
  simp only [cmp, Tr.ht, List.length_cons, List.length_append, List.length_nil] at hz hd hu ret
  cases ht with
  | @rep y kc kc1 kc2 kc3 mv v1 _ _ _ _ _ _ hm ho ht =>
  refine wpAny_call ?_
  k_dflt ktr_enter
  k_steps
  rename (Array.toList _ = Array.toList _ ++ _) => hn
  rename (StepsIn _ _ _) => hi
  rename News h₀ L _ _ => kN
  refine' ret _ _ _ _ _ (_ :: _ :: _ :: _) (_ :: _ :: (_ ++ [_])) (by k_asm) ?hb ?ho ?ha (.cons (.loop (.tail _ (.tail _ (.head _)))) (.cons (.head (.head _) ho) ((hi.mono (fun q hq => .tail _ (.tail _ (.tail _ hq)))).app (.cons (.tail (.tail _ (.head _))) .nil))))
  case ha => exact set_list hn
  case hb =>
    simp only [head_out hn hi, push_cast] at kN
    exact back _ _ _ _ (News4 kN (by k_mem) (by k_mem) (fun q hq => by k_ownIn) (List.forall_mem_cons.mpr ⟨by k_mem, List.forall_mem_cons.mpr ⟨by k_mem, List.forall_mem_cons.mpr ⟨by k_mem, fun q hq => by k_ownIn⟩⟩⟩))
  case ho => exact ord_cons' (lt_two hin (by omega) (by omega) (by ktn_lt)) (ord_cons' (lt_two hin (by omega) (by omega) (by ktn_lt)) (ord_cons' (lt_two hin (by omega) (by omega) (by ktn_lt)) (ord_two hin (by assumption) (by k_mem) (by k_mem) (fun q hq => by k_ownIn))))
section
theorem unr_end3 {L : Addr} {i : Addr} {o : Obj} {nx : List (Addr × Obj)} {rest : (Str → Option Value) → List (Addr × Obj) → Prop} {s₁ : Shared} {h' : Heap} {tk : Nat} {m' : Str → Option Value} (F : Fr h₀ L h' m') (N : News h₀ L h' ((i, o) :: nx))
    (hne : ∀ p ∈ nx, p.1 ≠ i) (r : rest m' nx) : UnrEndW h₀ L s₁ [(i, o)] rest { s₁ with heap := h', toks := tk } :=
  ⟨h', tk, m', nx, rfl, F, N, fun p hp q hq => by rw [List.mem_singleton.mp hq]; exact hne p hp, r⟩
theorem subL_one {p : Addr × Obj} {l : List (Addr × Obj)} (h : p ∈ l) : SubL [p] l := by
  first | exact ⟨h, trivial⟩ | exact And.intro h trivial
set_option hygiene false in
theorem kw8 : True := by
  k_with "m UnrEndW" => ((fail_if_success (have z9 := @off13)); (k_dflt (refine' unr_end3 ?F ?N ?hne ?_; (case F => k_asm); (case N => k_asm); (case hne => k_all)); refine And.intro (subL_one (by k_mem)) ?_))
  k_with "m exec For Name Subscript cons nil" => ((fail_if_success (have z9 := @off13)); (k_here; (rename Fr _ _ _ _ => lF'); (with_unfolding_all refine' For_turns lF' ?_; k_whole)))
  k_with "m pyIter ref" => ((fail_if_success (have z9 := @off13)); (k_here; k_dflt (first
  | (refine' iter_tupTurns (lo := tup [v1]) (vs := [v1]) ?hh ?F ?N ?hm rfl rfl ?_; (case hh => exact rfl); (case F => k_asm); (case N => k_asm); (case hm => k_mem))
  | (refine' iter_tupTurns (lo := tup [v1, v2]) (vs := [v1, v2]) ?hh ?F ?N ?hm rfl rfl ?_; (case hh => exact rfl); (case F => k_asm); (case N => k_asm); (case hm => k_mem))); intro i' l1; (try k_lt l1)))
  trivial
theorem ord_app' {tl tl' : List (Addr × Obj)} (h1 : ∀ q ∈ news, ∀ p ∈ tl, q.1 < p.1) (h2 : ∀ q ∈ news, ∀ p ∈ tl', q.1 < p.1) : ∀ q ∈ news, ∀ p ∈ tl ++ tl', q.1 < p.1 := fun q hq p hp => by
  rcases List.mem_append.mp hp with hp | hp
  · exact h1 q hq p hp
  · exact h2 q hq p hp
theorem put_seq1 {T1 : Tr} (S1 : PutSpec w T1) : PutSpec w (.seq1 T1) := by
  intro p loose mean mg mb dp un gd cn cs L a ccd cl outer A₀ base h₀ m s Q E news u1 upd x dx lst k1 k2 t1 its c k v B F X T hk hd hu N hx hne U1 U2 ht hz ret
  obtain ⟨R, hR1, hR2, hin, N, back⟩ := Upd_two U1 U2 N hne
  replace hx := inst_in hin hx
  replace ht := ht.into (fun y vs => tup_in hin)
  clear U1 U2
  simp only [cmp, Tr.ht] at hz hd hu ret
  cases ht with
  | @seq1 y z kc v1 _ hm hm2 ht =>
  refine wpAny_call ?_
  k_dflt ktr_enter
  k_steps
  refine' ret _ _ _ _ _ _ _ (by k_asm) ?hb ?ho (by assumption) (by assumption)
  case hb => exact back _ _ _ _ (News4 (by k_asm) (by k_mem) (by k_mem) (fun q hq => by k_ownIn) (fun q hq => by k_ownIn))
  case ho => exact ord_two hin (by assumption) (by k_mem) (by k_mem) (fun q hq => by k_ownIn)
theorem put_seq2 {T1 T2 : Tr} (S1 : PutSpec w T1) (S2 : PutSpec w T2) : PutSpec w (.seq2 T1 T2) := by
  intro p loose mean mg mb dp un gd cn cs L a ccd cl outer A₀ base h₀ m s Q E news u1 upd x dx lst k1 k2 t1 its c k v B F X T hk hd hu N hx hne U1 U2 ht hz ret
  obtain ⟨R, hR1, hR2, hin, N, back⟩ := Upd_two U1 U2 N hne
  replace hx := inst_in hin hx
  replace ht := ht.into (fun y vs => tup_in hin)
  clear U1 U2
  simp only [cmp, Tr.ht, List.length_append] at hz hd hu ret
  cases ht with
  | @seq2 y z kc v1 v2 _ _ hm hm2 ht ht2 =>
  refine wpAny_call ?_
  k_dflt ktr_enter
  k_steps
  rename (Array.toList _ = Array.toList _ ++ _) => hn2
  rename (Array.toList _ = Array.toList its ++ _) => hn1
  rename (StepsIn _ _ _) => hi2
  rename (StepsIn _ _ (Prod.fst (cmp its.size k T1))) => hi1
  rename (Array.size _ = its.size + List.length _) => hq1
  rename News h₀ L _ _ => kN
  simp only [hq1] at hi2 kN
  refine' ret _ _ _ _ _ (_ ++ _) (_ ++ _) (by k_asm) ?hb ?ho ?ha ((hi1.mono (fun q hq => List.mem_append_left _ hq)).app (hi2.mono (fun q hq => List.mem_append_right _ hq)))
  case hb => exact back _ _ _ _ (News4 kN (by k_mem) (by k_mem) (fun q hq => by k_ownIn) (fun q hq => by k_ownIn))
  case ha => rw [hn2, hn1, List.append_assoc]
  case ho => exact ord_app' (ord_two hin (by assumption) (by k_mem) (by k_mem) (fun q hq => by k_ownIn)) (ord_two hin (by assumption) (by k_mem) (by k_mem) (fun q hq => by k_ownIn))
theorem put_all : ∀ T' : Tr, PutSpec w T'
  | .chr => put_chr
  | .seq1 t => put_seq1 (put_all t)
  | .seq2 t u => put_seq2 (put_all t) (put_all u)
  | .grp .none t => put_grp0 (put_all t)
  | .grp (.some _) t => put_grpn (put_all t)
  | .rep _ _ _ t _ _ => put_rep (put_all t)
end
theorem off13 : True := trivial
theorem code_c {T' : Tr} {v : Value}
    (B : Below A₀ base outer h₀) (F : Fr h₀ L s.heap m) (X : (kk.heap_1 w.params).In h₀) (T : Top p loose mean mg mb h₀) (hk : cs.kind = .function) (hd : dp + 4 * (T'.ht + 3) < recursionLimit) (hu : un + 32 * (T'.ht + 3) < cLine)
    (N : News h₀ L s.heap news) (ht : TreeIn news v T') (hz : (cmp 0 0 T').1.length < 800)
    (ret : ∀ h' tk y lst its c t tl, Fr h₀ L h' m → News h₀ L h' ((y, tup [.ref lst, .int (cmp 0 0 T').2 t]) :: (lst, listOf its c) :: (news ++ tl)) → StepsIn tl its.toList ((cmp 0 0 T').1 ++ [.met]) → (∀ q ∈ news, q.1 < y) → (∀ q ∈ news, q.1 < lst) → (∀ q ∈ news, ∀ p ∈ tl, q.1 < p.1) → Q (.ref y) { s with heap := h', toks := tk }) :
    wpAny (model PySem.Challenge.rw_sz0083_01.row.prog w) (ktrTop dp un gd cn cs L a ccd cl outer) (call (.ref 324) [v]) Q E s := by
  have S1 := put_all (w := w) T'
  refine wpAny_call ?_
  k_dflt ktr_enter
  k_steps
  rename (∀ q : Addr × Obj, _ → ∀ p : Addr × Obj, _ → _) => o1
  rename (_ < _ ∧ _ < _ ∧ _ < _ ∧ AllLt _ (news ++ _)) => o2
  rename (_ < _ ∧ _ < _ ∧ _ < _ ∧ _ < _ ∧ AllLt _ (news ++ _)) => o3
  rename (_ < _ ∧ _ < _ ∧ AllLt _ news) => o4
  rename (Array.toList _ = [] ++ _) => hn1
  rename (StepsIn _ _ _) => hi1
  refine' ret _ _ _ _ _ _ _ ((_, tup [.int 15 _]) :: _) (by k_asm) ?hb ?hs (fun q hq => ktn_ltOf (allLt_app o3.2.2.2.2).1 q hq) (fun q hq => ktn_ltOf o4.2.2 q hq) (fun q hq => List.forall_mem_cons.mpr ⟨?he, fun p hp => o1 q (by (repeat (refine' List.mem_cons_of_mem _ ?_)); assumption) p hp⟩)
  case hb => exact News_sub (by k_asm) (List.forall_mem_cons.mpr ⟨by k_mem, List.forall_mem_cons.mpr ⟨by k_mem, List.forall_mem_append.mpr ⟨fun q hq => by k_ownIn, List.forall_mem_cons.mpr ⟨by k_mem, fun q hq => by k_ownIn⟩⟩⟩⟩)
  case hs => rw [Array.toList_push, hn1]; exact (hi1.mono (fun q hq => List.mem_cons_of_mem _ hq)).app (.cons (.met (by first | exact List.mem_cons_self | exact List.mem_cons_self ..)) .nil)
  case he => exact ktn_ltOf (allLt_app o2.2.2.2).1 q hq
theorem adjust_upto (a n : Nat) (ha : a ≤ n) : Builtin.Slice.sliceAdjust none (some (a : Int)) 1 (n : Int) = ((0 : Int), (a : Int)) := by
  unfold Builtin.Slice.sliceAdjust
  have h1 : ¬ ((1 : Int) < 0) := by omega
  have h2 : ¬ ((a : Int) < 0) := by omega
  simp only [h1, h2, if_false]
  congr 1
  omega
theorem places_upto (a : Nat) : Builtin.Slice.slicePlaces 0 (a : Int) 1 = a := by
  unfold Builtin.Slice.slicePlaces
  have h1 : (1 : Int) > 0 := by omega
  simp only [h1, if_true, Int.ediv_one]
  split <;> omega
theorem sliceApplied_upto {prog : Program} {A : Around} {sl : Addr} {a n : Nat} {u : Tok} {Q : Int × Int × Nat → Shared → Prop} (hs : s.heap.IsSliceOf sl .none (.int a u) .none) (ha : a ≤ n) (h : Q ((0 : Int), 1, a) s) :
    wpAny (model prog w) A (Builtin.Slice.sliceApplied (.ref sl) (pure (n : Int))) Q E s := by
  obtain ⟨os, hos, hcs, hds⟩ := id hs
  unfold Builtin.Slice.sliceApplied Builtin.Slice.sliceFields
  refine wpAny_bind (wpAny_bind (wpAny_field hos hds (x := .none) rfl (wpAny_bind (wpAny_field hos hds (x := .int a u) rfl (wpAny_bind (wpAny_field hos hds (x := .none) rfl (wpAny_pure ?_)))))))
  refine wpAny_bind (slicePart_none ?_)
  show wpAny _ _ (if ((1 : Int) == 0) = true then _ else _) _ _ s
  rw [if_neg (by decide)]
  refine wpAny_bind (slicePart_none (wpAny_bind (slicePart_int (wpAny_bind (wpAny_pure ?_)))))
  show wpAny _ _ (match Builtin.Slice.sliceAdjust none (some (a : Int)) 1 (n : Int) with | (lo, hi) => pure (lo, (1 : Int), Builtin.Slice.slicePlaces lo hi 1)) _ _ s
  rw [adjust_upto a n ha]
  show wpAny _ _ (pure ((0 : Int), (1 : Int), Builtin.Slice.slicePlaces (0 : Int) (a : Int) 1)) _ _ s
  rw [places_upto a]
  exact wpAny_pure h
theorem pick_upto (xs : Array Value) (a : Nat) (_ha : a ≤ xs.size) : ((List.range a).filterMap fun (k : Nat) => xs[((0 : Int) + (k : Int) * 1).toNat]?).toArray = (xs.toList.take a).toArray := by
  have e : (fun (k : Nat) => xs[((0 : Int) + (k : Int) * 1).toNat]?) = fun k => xs[0 + k]? := by
    funext k
    have : ((0 : Int) + (k : Int) * 1).toNat = 0 + k := by omega
    rw [this]
  rw [e]
  have := pick_run xs 0 a
  rw [List.filterMap_map] at this
  have e2 : ((fun x => xs[x]?) ∘ fun x => 0 + x) = fun k => xs[0 + k]? := rfl
  rw [e2] at this
  rw [this, List.drop_zero]
theorem getItem_tuple_upto {prog : Program} {A : Around} {t sl : Addr} {items : Array Value} {a : Nat} {u : Tok} {Q : Value → Shared → Prop} (ht : IsTup s.heap t items) (hs : s.heap.IsSliceOf sl .none (.int a u) .none) (ha : a < items.size)
    (h : Q (.ref s.heap.objs.size) { s with heap := s.heap.push { cls := .type "tuple", data := .seq (items.toList.take a).toArray } })
    (hsz : items.size ≤ sizeLine) : wpAny (model prog w) A (getItem (.ref t) (.ref sl)) Q E s := by
  have hdrop : sizeOk (.seq (items.toList.take a).toArray) := by
    show (items.toList.take a).toArray.size ≤ sizeLine
    rw [List.size_toArray, List.length_take, Array.length_toList]
    omega
  obtain ⟨os, hos, hcs, hds⟩ := id hs
  have hTs : s.TypeIs (.ref sl) "slice" := ⟨os, hos, hcs⟩
  unfold getItem
  try with_reducible refine wpAny_holding ?_
  first | refine wpAny_bind (wpAny_pure ?_) | skip
  refine wpAny_bind (wpAny_sequenceKey ht.typeIs (by decide) ?_)
  refine wpAny_bind (wpAny_callSpecial?_slot (name := Str.ofString "__getitem__") ht.typeIs slot_tuple_getitem
    (wpAny_call_entry slot_tuple_getitem ht.typeIs entry_tuple_getitem ?_ (args_tuple_getitem _ _)))
  show wpAny _ _ (Builtin.Tuple.tupleItemsOf (.ref t) >>= _) _ _ s
  refine wpAny_bind (tupleItemsOf_ ht ?_)
  refine wpAny_bind (wpAny_typeOf hTs ?_)
  rw [if_pos (by decide)]
  refine wpAny_bind (sliceApplied_upto hs (Nat.le_of_lt ha) ?_)
  have hno : ¬ (((0 : Int) == 0 && (1 : Int) == 1 && a == items.size) = true) := by
    have : (a == items.size) = false := by rw [beq_eq_false_iff_ne]; omega
    rw [this]; simp
  show wpAny _ _ (if ((0 : Int) == 0 && (1 : Int) == 1 && a == items.size) = true then _ else _) _ _ s
  rw [if_neg hno, pick_upto items a (Nat.le_of_lt ha)]
  first
    | exact wpAny_bind (m := Builtin.Tuple.tupleExact _) (wpAny_newObj_type (wpAny_pure ⟨_, rfl, wpAny_pure h⟩) hdrop)
    | exact wpAny_bind (m := Builtin.Tuple.tupleExact _) (wpAny_newObj_type (wpAny_bind (wpAny_pure (wpAny_pure ⟨_, rfl, wpAny_pure h⟩))) hdrop)
    | exact wpAny_bind (wpAny_bind (m := Builtin.Tuple.tupleExact _) (wpAny_newObj_type (wpAny_pure (wpAny_pure ⟨_, rfl, wpAny_pure h⟩)) hdrop))
    | exact wpAny_bind (wpAny_bind (m := Builtin.Tuple.tupleExact _) (wpAny_newObj_type (wpAny_pure ⟨_, rfl, wpAny_pure h⟩) hdrop))
theorem tup_upto {prog : Program} {A : Around} {value slice : PySem.Expr} {t : Addr} {vs : List Value} {i : Int} {a : Nat} {u : Tok} (F : Fr h₀ L s.heap m) (N : News h₀ L s.heap news) (hm : (t, tup vs) ∈ news) (hi : i = (a : Int)) (ha : a < vs.length) (hz : vs.length ≤ 1000)
    (h : ∀ D h', Fr h₀ L h' m → News h₀ L h' ((D, tup (vs.take a)) :: news) → (∀ p ∈ news, p.1 < D) → Q (.ref D) { s with heap := h' })
    (hs : subscripted slice false (.ref t) (.ref s.heap.objs.size) = operate [.ref s.heap.objs.size, .ref t] (getItem (.ref t) (.ref s.heap.objs.size)))
    (hg : ∀ r, letTemporaryGo value (.ref t) r = pure ()) :
    wpAny (model prog w) A (subscriptTail value slice (.ref t) (.ref s.heap.objs.size)) Q E { s with heap := s.heap.push { cls := .type "slice", data := .fields #[.none, .int i u, .none] } } := by
  subst hi
  have ht : IsTup s.heap t vs.toArray := News.isTup N hm
  have ht' : IsTup (s.heap.push { cls := .type "slice", data := .fields #[.none, .int a u, .none] }) t vs.toArray := ht.keeps fun _ _ e => Heap.get?_push_of_some _ e
  refine subscriptTail_ops (s := { s with heap := s.heap.push { cls := .type "slice", data := .fields #[.none, .int a u, .none] } }) ht'.typeIs slot_tuple_getitem.lookup
    (getItem_tuple_upto ht' (Heap.IsSliceOf.new ..) (by simpa using ha) ?_ (by rw [List.size_toArray]; size_fits)) hs hg
  have N1 := News.push (F.push { cls := .type "slice", data := .fields #[.none, .int a u, .none] }) (N.grown fun _ _ e => Heap.get?_push_of_some _ e) { cls := .type "tuple", data := .seq (vs.toArray.toList.take a).toArray }
  rw [Heap.size_push] at N1
  show Q (.ref (s.heap.push _).objs.size) _
  rw [Heap.size_push]
  rw [List.toList_toArray] at N1
  exact h _ _ ((F.push _).push _) N1 (fun p hp => Nat.lt_succ_of_lt (Heap.lt_size (N p hp).1))
theorem tup_add {prog : Program} {A : Around} {t b : Addr} {vs ws : List Value} (F : Fr h₀ L s.heap m) (N : News h₀ L s.heap news) (ht : (t, tup vs) ∈ news) (hb : (b, tup ws) ∈ news) (hz : vs.length + ws.length ≤ 2000)
    (h : ∀ D h', Fr h₀ L h' m → News h₀ L h' ((D, tup (vs ++ ws)) :: news) → (D = t ∨ D = b ∨ ∀ p ∈ news, p.1 < D) → Q (.ref D) { s with heap := h' }) :
    wpAny (model prog w) A (binaryOp .Add (.ref t) (.ref b)) Q E s := by
  refine add_tuples F N (News.isTup N ht) (News.isTup N hb) (fun e => ?_) (fun _ e => ?_) (fun _ _ h' F' N' => ?_) (by size_fits)
  · exact h b s.heap F (fun p hp => by
      rcases List.mem_cons.mp hp with rfl | hp
      · rw [e, List.nil_append]; exact N _ hb
      · exact N p hp) (.inr (.inl rfl))
  · exact h t s.heap F (fun p hp => by
      rcases List.mem_cons.mp hp with rfl | hp
      · rw [e, List.append_nil]; exact N _ ht
      · exact N p hp) (.inl rfl)
  · exact h _ h' F' N' (.inr (.inr fun p hp => Heap.lt_size (N p hp).1))
theorem changed_c {row : Addr} {vs : List Value} {i : Int} {ti : Tok} {a' : Nat} {v : Value}
    (B : Below A₀ base outer h₀) (F : Fr h₀ L s.heap m) (X : (kk.heap_1 w.params).In h₀) (T : Top p loose mean mg mb h₀) (hk : cs.kind = .function) (hd : dp + 4 < recursionLimit) (hu : un + 32 < cLine)
    (N : News h₀ L s.heap news) (hm : (row, tup vs) ∈ news) (hi : i = (a' : Int)) (ha : a' < vs.length) (hz : vs.length ≤ 1000)
    (ret : ∀ h' tk y, Fr h₀ L h' m → News h₀ L h' ((y, tup (vs.take a' ++ [v] ++ vs.drop (a' + 1))) :: news) → (∀ p ∈ news, p.1 < y) → Q (.ref y) { s with heap := h', toks := tk }) :
    wpAny (model PySem.Challenge.rw_sz0083_01.row.prog w) (ktrTop dp un gd cn cs L a ccd cl outer) (call (.ref 331) [.ref row, .int i ti, v]) Q E s := by
  k_with "m binaryOp Add ref ref" => ((k_here; (with_reducible refine' tup_add ?Fq1 ?Nq2 ?mq3 ?mq4 ?wq5 ?_); k_dflt ((case Fq1 => k_asm); (case Nq2 => k_asm); (case mq3 => k_mem); (case mq4 => k_mem); (case wq5 => kwd_inv)); intro D' h' F' N' q1'; k_extra "w kbo_bools"))
  k_with "m subscriptTail Name Slice ref ref" => ((k_here; k_dflt (first
  | (refine' tup_upto (s := ⟨_, _, _, _, _⟩) ?F ?N ?hm ?hi ?ha ?hz ?_ ?hs ?hg; (case F => k_asm); (case N => k_asm); (case hm => k_mem); (case hi => assumption); (case ha => assumption); (case hz => assumption); (case hs => with_unfolding_all rfl); (case hg => intro _; with_unfolding_all rfl))
  | (refine' tup_from (s := ⟨_, _, _, _, _⟩) ?F ?N ?hm ?hi ?h1 ?ha ?hz ?_ ?hs ?hg; (case F => k_asm); (case N => k_asm); (case hm => k_mem); (case hi => assumption); (case h1 => exact Nat.le_add_left ..); (case ha => assumption); (case hz => assumption); (case hs => with_unfolding_all rfl); (case hg => intro _; with_unfolding_all rfl))); intro D' h' F' N' l1; (try k_lt l1); (try k_sweep)))
  have hi' : i + 1 = ((a' + 1 : Nat) : Int) := by omega
  have ha2 : a' + 1 ≤ vs.length := ha
  refine wpAny_call ?_
  k_dflt ktr_enter
  k_steps
  rename (∀ p ∈ news, p.1 < _) => q1
  rename (_ < _ ∧ AllLt _ news) => q2
  rename (_ < _ ∧ _ < _ ∧ _ < _ ∧ AllLt _ news) => q4
  rename (_ = _ ∨ _ = _ ∨ ∀ p ∈ _ :: _ :: news, p.1 < _) => q3
  rename (_ = _ ∨ _ = _ ∨ ∀ p ∈ _ :: _ :: _ :: _ :: news, p.1 < _) => q5
  refine' ret _ _ _ (by k_asm) ?hb ?ho
  case hb => exact News_sub (by k_asm) (List.forall_mem_cons.mpr ⟨by k_mem, fun q hq => by (repeat (refine' List.mem_cons_of_mem _ ?_)); assumption⟩)
  case ho =>
    intro p hp
    rcases q5 with e | e | h5
    · rw [e]
      rcases q3 with e3 | e3 | h3
      · rw [e3]; exact q1 p hp
      · rw [e3]; exact ktn_ltOf q2.2 p hp
      · exact h3 p (List.mem_cons_of_mem _ (List.mem_cons_of_mem _ hp))
    · rw [e]; exact ktn_ltOf q4.2.2.2 p hp
    · exact h5 p (List.mem_cons_of_mem _ (List.mem_cons_of_mem _ (List.mem_cons_of_mem _ (List.mem_cons_of_mem _ hp))))
theorem takes_c {sv : Value} {y : Addr} {t1 t2 t3 : Tok}
    (B : Below A₀ base outer h₀) (F : Fr h₀ L s.heap m) (X : (kk.heap_1 w.params).In h₀) (T : Top p loose mean mg mb h₀) (hk : cs.kind = .function) (hd : dp + 4 < recursionLimit) (hu : un + 32 < cLine)
    (N : News h₀ L s.heap news) (hm : (y, tup [.int 0 t1, .int 97 t2]) ∈ news)
    (ret : ∀ h' tk, Fr h₀ L h' m → News h₀ L h' news → Q (.bool true) { s with heap := h', toks := tk }) :
    wpAny (model PySem.Challenge.rw_sz0083_01.row.prog w) (ktrTop dp un gd cn cs L a ccd cl outer) (call (.ref 373) [sv, .ref y, .int 97 t3]) Q E s := by
  refine wpAny_call ?_
  k_dflt ktr_enter
  k_steps
  exact ret _ _ (by k_asm) (by k_asm)
noncomputable abbrev sdict (w : World) (k1 k2 k3 k4 k5 k6 : Tok) (sv tv lv wv : Value) : Obj := dictOf [ent w (Str.ofString "steps") k1 sv, ent w (Str.ofString "text") k2 tv, ent w (Str.ofString "ignores_case") k3 (.bool false), ent w (Str.ofString "is_multiline") k4 (.bool false), ent w (Str.ofString "left") k5 lv, ent w (Str.ofString "waiting") k6 wv] 6
theorem len_tup {prog : Program} {A : Around} {l : Addr} {vs : List Value} (N : News h₀ L s.heap news) (hm : (l, tup vs) ∈ news) (hz : vs.length < 1001) (h : ∀ tk t, Q (.int vs.length t) { s with toks := tk }) :
    wpAny (model prog w) A (call (.builtin "len") [.ref l]) Q E s := by
  have ht : IsTup s.heap l vs.toArray := News.isTup N hm
  have h' : Q (.int (vs.toArray.size : Nat) (s.toks + 1)) { s with toks := s.toks + 1 + 1 } := by rw [List.size_toArray]; exact h _ _
  refine Calls.call_function_entry kind_len plain_len entry_len (args_len1 _) ?_
  exact len_body_tuple ht (by rw [List.size_toArray]; omega) h'
theorem keep_c {x dx lst st g l : Addr} {k1 k2 k3 k4 k5 k6 t1 t2 : Tok} {pc at' : Int} {sv tv lv : Value} {gs ls : List Value} {its : Array Value} {c : Nat}
    (B : Below A₀ base outer h₀) (F : Fr h₀ L s.heap m) (X : (kk.heap_1 w.params).In h₀) (T : Top p loose mean mg mb h₀) (hk : cs.kind = .function) (hd : dp + 2 < recursionLimit) (hu : un + 16 < cLine)
    (N : News h₀ L s.heap news) (hx : (x, instObj 404 dx) ∈ news) (hx2 : (dx, sdict w k1 k2 k3 k4 k5 k6 sv tv lv (.ref lst)) ∈ news) (U : ∀ o', Upd lst (listOf its c) o' news (upd o')) (hz : its.size < 1000)
    (hs : (st, tup [.int pc t1, .int at' t2, .ref g, .ref l]) ∈ news) (hg : (g, tup gs) ∈ news) (hl : (l, tup ls) ∈ news) (hg2 : gs.length < 100) (hl2 : ls.length < 100)
    (ret : ∀ h' tk, Fr h₀ L h' m → News h₀ L h' (upd (listOf (its.push (.ref st)) (c + 1))) → (its.push (.ref st)).size < 1001 → Q .none { s with heap := h', toks := tk }) :
    wpAny (model PySem.Challenge.rw_sz0083_01.row.prog w) (ktrTop dp un gd cn cs L a ccd cl outer) (call (.ref 359) [.ref x, .ref st]) Q E s := by
  k_with "m call builtin:len" => ((k_here; (with_reducible refine' len_tup ?Nq1 ?mq2 ?yq3 ?_); k_dflt ((case Nq1 => k_asm); (case mq2 => k_mem); (case yq3 => first | assumption | decide | kwd_inv)); intro tk' t'; k_extra "w kbo_bools"))
  obtain ⟨R, hR, hin, N, back⟩ := Upd_use2 U N
  have hx := (hin _ hx).resolve_left (fun e => by cases e)
  have hx2 := (hin _ hx2).resolve_left (fun e => absurd (show Value.type "dict" = .type "list" from congrArg (fun q : Addr × Obj => q.2.cls) e) (by decide))
  have hs := (hin _ hs).resolve_left (fun e => absurd (show Value.type "tuple" = .type "list" from congrArg (fun q : Addr × Obj => q.2.cls) e) (by decide))
  have hg := (hin _ hg).resolve_left (fun e => absurd (show Value.type "tuple" = .type "list" from congrArg (fun q : Addr × Obj => q.2.cls) e) (by decide))
  have hl := (hin _ hl).resolve_left (fun e => absurd (show Value.type "tuple" = .type "list" from congrArg (fun q : Addr × Obj => q.2.cls) e) (by decide))
  have hz2 : (its.push (.ref st)).size < 1001 := by rw [Array.size_push]; omega
  have hz3 : its.size < 1001 := by omega
  have hz4 : ¬ ((its.size : Int) * (32 + (gs.length : Int) + (ls.length : Int)) > 100000000) := by
    have h1 : its.size * (32 + gs.length + ls.length) ≤ 1000 * 300 := Nat.mul_le_mul (by omega) (by omega)
    have h2 : ((its.size * (32 + gs.length + ls.length) : Nat) : Int) = (its.size : Int) * (32 + (gs.length : Int) + (ls.length : Int)) := by simp
    omega
  clear U
  refine wpAny_call ?_
  k_dflt ktr_enter
  k_steps
  exact ret _ _ (by k_asm) (by have N9 := back _ _ [] (News3 (by k_asm) (by k_mem) (fun q hq => by k_ownIn) (List.forall_mem_nil _)); rwa [List.append_nil] at N9) hz2
/-- A cell of `loops`: a pair (count, begin), or a place. -/
inductive Cell where
  | pair : Int → Int → Cell
  | at : Int → Cell
inductive CellIn (R : List (Addr × Obj)) : Value → Cell → Prop where
  | pair {y : Addr} {a b : Int} {t u : Tok} : (y, tup [.int a t, .int b u]) ∈ R → CellIn R (.ref y) (.pair a b)
  | at {a : Int} {t : Tok} : CellIn R (.int a t) (.at a)
inductive GrpIn (R : List (Addr × Obj)) : Value → Option (Int × Int) → Prop where
  | none : GrpIn R .none none
  | some {y : Addr} {a b : Int} {t u : Tok} : (y, tup [.int a t, .int b u]) ∈ R → GrpIn R (.ref y) (some (a, b))
theorem CellIn.mono {R R' : List (Addr × Obj)} {v : Value} {t : Cell} (h : CellIn R v t) (hs : ∀ q ∈ R, q ∈ R') : CellIn R' v t := by
  cases h with
  | pair h => exact .pair (hs _ h)
  | «at» => exact .at
theorem GrpIn.mono {R R' : List (Addr × Obj)} {v : Value} {t : Option (Int × Int)} (h : GrpIn R v t) (hs : ∀ q ∈ R, q ∈ R') : GrpIn R' v t := by
  cases h with
  | none => exact .none
  | some h => exact .some (hs _ h)
inductive AllIn {α : Type} (P : Value → α → Prop) : List Value → List α → Prop where
  | nil : AllIn P [] []
  | cons {v : Value} {t : α} {vs : List Value} {ts : List α} : P v t → AllIn P vs ts → AllIn P (v :: vs) (t :: ts)
theorem AllIn.mono {α : Type} {P P' : Value → α → Prop} {vs : List Value} {ts : List α} (h : AllIn P vs ts) (hs : ∀ v t, P v t → P' v t) : AllIn P' vs ts := by
  induction h with
  | nil => exact .nil
  | cons h _ ih => exact .cons (hs _ _ h) ih
theorem AllIn.length {α : Type} {P : Value → α → Prop} {vs : List Value} {ts : List α} (h : AllIn P vs ts) : vs.length = ts.length := by
  induction h with
  | nil => rfl
  | cons _ _ ih => simp [ih]
theorem AllIn.get {α : Type} {P : Value → α → Prop} {vs : List Value} {ts : List α} (h : AllIn P vs ts) {i : Nat} {t : α} (ht : ts[i]? = some t) : ∃ v, vs[i]? = some v ∧ P v t := by
  induction h generalizing i with
  | nil => simp at ht
  | cons h _ ih =>
    cases i with
    | zero => simp at ht; subst ht; exact ⟨_, by simp, h⟩
    | succ i => simp at ht; obtain ⟨v, h1, h2⟩ := ih ht; exact ⟨v, by simpa using h1, h2⟩
theorem AllIn.set {α : Type} {P : Value → α → Prop} {vs : List Value} {ts : List α} (h : AllIn P vs ts) {i : Nat} {v : Value} {t : α} (hi : i < ts.length) (hv : P v t) : AllIn P (vs.take i ++ [v] ++ vs.drop (i + 1)) (ts.set i t) := by
  induction h generalizing i with
  | nil => simp at hi
  | cons h hr ih =>
    cases i with
    | zero => simpa using AllIn.cons hv hr
    | succ i => simpa using AllIn.cons h (by simpa using ih (by simpa using hi))
structure St where
  pc : Int
  pos : Int
  gs : List (Option (Int × Int))
  ls : List Cell
inductive StIn (R : List (Addr × Obj)) : Value → St → Prop where
  | mk {y g l : Addr} {pc pos : Int} {t u : Tok} {gs : List (Option (Int × Int))} {ls : List Cell} {gv lv : List Value} : (y, tup [.int pc t, .int pos u, .ref g, .ref l]) ∈ R → (g, tup gv) ∈ R → AllIn (GrpIn R) gv gs → (l, tup lv) ∈ R → AllIn (CellIn R) lv ls → StIn R (.ref y) ⟨pc, pos, gs, ls⟩
theorem StIn.mono {R R' : List (Addr × Obj)} {v : Value} {t : St} (h : StIn R v t) (hs : ∀ q ∈ R, q ∈ R') : StIn R' v t := by
  k_with "m call ref" => ((k_here; k_dflt (show wpAny _ _ (call (Value.ref 331) _) _ _ _); k_dflt (refine' changed_c ?B ?F ?X ?T ?hk ?hd ?hu ?N ?mq1 ?aq2 ?aq3 ?wq4 ?_; k_extra "w kpf_c"; (case N => k_asm); (case mq1 => k_mem); (case aq2 => first | assumption | rfl); (case aq3 => first | assumption | rfl); (case wq4 => kwd_inv); k_extra "w kcf_m"); intro h' tk' y' F' N' l1; k_extra "w kbo_bools"))
  k_with "m call ref" => ((k_here; k_dflt (show wpAny _ _ (call (Value.ref 359) _) _ _ _); k_dflt (refine' keep_c ?B ?F ?X ?T ?hk ?hd ?hu ?N ?mq1 ?mq2 ?uq3 ?aq4 ?mq5 ?mq6 ?mq7 ?wq8 ?wq9 ?_; k_extra "w kpf_c"; (case N => k_asm); (case mq1 => k_mem); (case mq2 => k_mem); (case uq3 => (intro o'; k_upd)); (case aq4 => first | assumption | rfl); (case mq5 => k_mem); (case mq6 => k_mem); (case mq7 => k_mem); (case wq8 => kwd_inv); (case wq9 => kwd_inv); k_extra "w kcf_m"); intro h' tk' F' N' hs'; k_extra "w kbo_bools"))
  cases h with
  | mk h1 h2 h3 h4 h5 => exact .mk (hs _ h1) (hs _ h2) (h3.mono fun _ _ h => h.mono hs) (hs _ h4) (h5.mono fun _ _ h => h.mono hs)
inductive OutIn (R : List (Addr × Obj)) : Value → Option St → Prop where
  | none : OutIn R .none none
  | some {v : Value} {t : St} : StIn R v t → OutIn R v (some t)
inductive KeptIn (R : List (Addr × Obj)) (its : Array Value) : Array Value → Option St → Prop where
  | none : KeptIn R its its none
  | some {v : Value} {t : St} : StIn R v t → KeptIn R its (its.push v) (some t)
/-- a turn of LOOP, HEAD or TAIL: the next state and the one kept -/
noncomputable def rep : Stp → St → Option (Option St × Option St)
  | .loop k, s => if 0 ≤ k ∧ k.toNat < s.ls.length then some (some ⟨s.pc + 1, s.pos, s.gs, s.ls.set k.toNat (.pair 0 s.pos)⟩, none) else none
  | .tail k least hd, s => if 0 ≤ k then
      match s.ls[k.toNat]? with
      | some (.pair c b) => if c ≥ least ∧ b = s.pos then some (none, none) else some (some ⟨hd, s.pos, s.gs, s.ls.set k.toNat (.pair (c + 1) s.pos)⟩, none)
      | _ => none
    else none
  | .head k least most lazy first behind out, s => if 0 ≤ k then
      match s.ls[k.toNat]? with
      | some (.pair c b) =>
        if (match most with | some mx => decide (c ≥ mx) | none => false) = true then some (some ⟨out, s.pos, s.gs, s.ls⟩, none)
        else if first = 1 ∧ behind = 1 then
          if c < least then some (some ⟨s.pc + 1, s.pos, s.gs, s.ls.set k.toNat (.pair c s.pos)⟩, none)
          else if lazy = true then some (some ⟨out, s.pos, s.gs, s.ls⟩, some ⟨s.pc + 1, s.pos, s.gs, s.ls.set k.toNat (.pair c s.pos)⟩)
          else some (some ⟨s.pc + 1, s.pos, s.gs, s.ls.set k.toNat (.pair c s.pos)⟩, some ⟨out, s.pos, s.gs, s.ls⟩)
        else if first = 2 ∧ behind = 2 ∧ c < least ∧ most.isSome = true then some (some ⟨s.pc + 1, s.pos, s.gs, s.ls.set k.toNat (.pair c s.pos)⟩, none)
        else if first = 1 ∧ behind = 2 ∧ c < least ∧ most.isSome = true ∧ 0 < s.gs.length then some (some ⟨s.pc + 1, s.pos, s.gs.set 0 none, s.ls.set k.toNat (.pair c s.pos)⟩, none)
        else none
      | _ => none
    else none
  | _, _ => none
noncomputable def RepSpec (w : World) (f : Addr) (n : Nat) (stp : Stp) (st : St) (nx kp : Option St) : Prop :=
  ∀ (p : Program) (loose : List Str) (mean : ExcName → Option Value) (mg mb : Str → Option Value) (dp un : Nat) (gd : Option (List Code)) (cn : Str) (cs : Scope) (L a : Addr) (ccd : Value) (cl : List (Str × Addr)) (outer : List Env) (A₀ : Around) (base h₀ : Heap) (m : Str → Option Value) (s : Shared) (Q E : Value → Shared → Prop) (news : List (Addr × Obj)) (upd : Obj → List (Addr × Obj)) (x dx lst z y : Addr) (k1 k2 k3 k4 k5 k6 : Tok) (sv tv lv : Value) (its : Array Value) (c : Nat) (R' : List (Addr × Obj)),
    Below A₀ base outer h₀ → Fr h₀ L s.heap m → (kk.heap_1 w.params).In h₀ → Top p loose mean mg mb h₀ → cs.kind = .function → dp + 8 < recursionLimit → un + 64 < cLine → News h₀ L s.heap news → (x, instObj 404 dx) ∈ news → (dx, sdict w k1 k2 k3 k4 k5 k6 sv tv lv (.ref lst)) ∈ news →
    (∀ o', Upd lst (listOf its c) o' news (upd o')) → its.size < 1000 → (∀ q ∈ R', q ∈ news) → st.gs.length < 50 → st.ls.length < 50 → StIn R' (.ref y) st → StpIn R' (.ref z) stp →
    (∀ h' tk v its' c' tl, Fr h₀ L h' m → News h₀ L h' (upd (listOf its' c') ++ tl) → (∀ q ∈ news, ∀ p ∈ tl, q.1 < p.1) → OutIn (R' ++ tl) v nx → KeptIn (R' ++ tl) its its' kp → Q v { s with heap := h', toks := tk }) →
    wpAny (model PySem.Challenge.rw_sz0083_01.row.prog w) (ktrTop dp un gd cn cs L a ccd cl outer) (call (.ref f) [.ref x, .ref z, .ref y]) Q E s
theorem upd_self {d : Addr} {o : Obj} {upd : Obj → List (Addr × Obj)} (U : ∀ o', Upd d o o' news (upd o')) : ∀ q ∈ upd o, q ∈ news := fun q hq => by
  rcases (Upd.mem2 (U o)).1 q hq with h | h
  · rw [h]; exact (Upd.mem2 (U o)).2.2.1
  · exact h.1
theorem get_lt {α : Type} {l : List α} {i : Nat} {x : α} (h : l[i]? = some x) : i < l.length := by
  rcases Nat.lt_or_ge i l.length with h1 | h1
  · exact h1
  · rw [List.getElem?_eq_none h1] at h; cases h
theorem rep_loop {k pc pos : Int} {gs : List (Option (Int × Int))} {ls : List Cell} (h0 : 0 ≤ k) (h1 : k.toNat < ls.length) : RepSpec w 401 8 (.loop k) ⟨pc, pos, gs, ls⟩ (some ⟨pc + 1, pos, gs, ls.set k.toNat (.pair 0 pos)⟩) none := by
  intro p loose mean mg mb dp un gd cn cs L a ccd cl outer A₀ base h₀ m s Q E news upd x dx lst z y k1 k2 k3 k4 k5 k6 sv tv lv its c R' B F X T hk hd hu N hx hx2 U hz hR hg1 hl1 hst hsp ret
  cases hst with
  | @mk _ g l _ _ t u _ _ gv lw hy hg hgs hl hls =>
  cases hsp with
  | @loop _ a1 b1 _ hzm =>
  have e1 := hgs.length
  have e2 := hls.length
  simp only at hg1 hl1
  have hi : k = (k.toNat : Int) := by omega
  have ha : k.toNat < lw.length := by omega
  have hw : lw.length ≤ 1000 := by omega
  have hy' := hR _ hy
  have hg' := hR _ hg
  have hl' := hR _ hl
  have hz' := hR _ hzm
  refine wpAny_call ?_
  k_dflt ktr_enter
  k_steps
  refine' ret _ _ _ its c (_ :: _ :: _ :: []) (by k_asm) ?hb ?ho (.some (.mk (List.mem_append_right _ (.head _)) (List.mem_append_left _ hg) (hgs.mono fun _ _ h => h.mono fun q hq => List.mem_append_left _ hq) (List.mem_append_right _ (.tail _ (.head _))) (AllIn.set (hls.mono fun _ _ h => h.mono fun q hq => List.mem_append_left _ hq) h1 (.pair (List.mem_append_right _ (.tail _ (.tail _ (.head _)))))))) .none
  case hb => exact News_sub (by k_asm) (List.forall_mem_append.mpr ⟨fun q hq => by (have hq := upd_self U q hq); (repeat (refine' List.mem_cons_of_mem _ ?_)); assumption, List.forall_mem_cons.mpr ⟨by k_mem, List.forall_mem_cons.mpr ⟨by k_mem, List.forall_mem_cons.mpr ⟨by k_mem, List.forall_mem_nil _⟩⟩⟩⟩)
  case ho => exact ord_cons' (ktn_ltOf (by ktn_lt)) (ord_cons' (ktn_ltOf (by ktn_lt)) (ord_cons' (ktn_ltOf (by ktn_lt)) (fun _ _ _ h => nomatch h)))
theorem rep_tail {k pc pos c0 b0 least hd0 : Int} {gs : List (Option (Int × Int))} {ls : List Cell} (h0 : 0 ≤ k) (hc0 : ls[k.toNat]? = some (.pair c0 b0)) : RepSpec w 401 8 (.tail k least hd0) ⟨pc, pos, gs, ls⟩ (if c0 ≥ least ∧ b0 = pos then Option.none else some ⟨hd0, pos, gs, ls.set k.toNat (.pair (c0 + 1) pos)⟩) none := by
  intro p loose mean mg mb dp un gd cn cs L a ccd cl outer A₀ base h₀ m s Q E news upd x dx lst z y k1 k2 k3 k4 k5 k6 sv tv lv its c R' B F X T hk hd hu N hx hx2 U hz hR hg1 hl1 hst hsp ret
  cases hst with
  | @mk _ g l _ _ t u _ _ gv lw hy hg hgs hl hls =>
  cases hsp with
  | @tail _ a1 b1 c1 d1 _ _ _ hzm =>
  have h1 := get_lt hc0
  obtain ⟨v, hv, hcell⟩ := hls.get hc0
  cases hcell with
  | @pair yc _ _ tc uc hcm =>
  have e1 := hgs.length
  have e2 := hls.length
  simp only at hg1 hl1
  have hi : k = (k.toNat : Int) := by omega
  have ha : k.toNat < lw.length := by omega
  have hw : lw.length ≤ 1000 := by omega
  have hy' := hR _ hy
  have hg' := hR _ hg
  have hl' := hR _ hl
  have hz' := hR _ hzm
  have hc' := hR _ hcm
  refine wpAny_call ?_
  k_dflt ktr_enter
  k_steps
  · rw [if_pos ⟨by assumption, by assumption⟩] at ret
    exact ret _ _ _ its c [] (by k_asm) (by rw [List.append_nil]; exact News_sub (by k_asm) (fun q hq => by (have hq := upd_self U q hq); (repeat (refine' List.mem_cons_of_mem _ ?_)); assumption)) (fun _ _ _ h => nomatch h) .none .none
  · rw [if_neg (by omega)] at ret
    refine' ret _ _ _ its c (_ :: _ :: _ :: []) (by k_asm) ?hb ?ho (.some (.mk (List.mem_append_right _ (.head _)) (List.mem_append_left _ hg) (hgs.mono fun _ _ h => h.mono fun q hq => List.mem_append_left _ hq) (List.mem_append_right _ (.tail _ (.head _))) (AllIn.set (hls.mono fun _ _ h => h.mono fun q hq => List.mem_append_left _ hq) h1 (.pair (List.mem_append_right _ (.tail _ (.tail _ (.head _)))))))) .none
    case hb => exact News_sub (by k_asm) (List.forall_mem_append.mpr ⟨fun q hq => by (have hq := upd_self U q hq); (repeat (refine' List.mem_cons_of_mem _ ?_)); assumption, List.forall_mem_cons.mpr ⟨by k_mem, List.forall_mem_cons.mpr ⟨by k_mem, List.forall_mem_cons.mpr ⟨by k_mem, List.forall_mem_nil _⟩⟩⟩⟩)
    case ho => exact ord_cons' (ktn_ltOf (by ktn_lt)) (ord_cons' (ktn_ltOf (by ktn_lt)) (ord_cons' (ktn_ltOf (by ktn_lt)) (fun _ _ _ h => nomatch h)))
  · rw [if_neg (by omega)] at ret
    refine' ret _ _ _ its c (_ :: _ :: _ :: []) (by k_asm) ?hb ?ho (.some (.mk (List.mem_append_right _ (.head _)) (List.mem_append_left _ hg) (hgs.mono fun _ _ h => h.mono fun q hq => List.mem_append_left _ hq) (List.mem_append_right _ (.tail _ (.head _))) (AllIn.set (hls.mono fun _ _ h => h.mono fun q hq => List.mem_append_left _ hq) h1 (.pair (List.mem_append_right _ (.tail _ (.tail _ (.head _)))))))) .none
    case hb => exact News_sub (by k_asm) (List.forall_mem_append.mpr ⟨fun q hq => by (have hq := upd_self U q hq); (repeat (refine' List.mem_cons_of_mem _ ?_)); assumption, List.forall_mem_cons.mpr ⟨by k_mem, List.forall_mem_cons.mpr ⟨by k_mem, List.forall_mem_cons.mpr ⟨by k_mem, List.forall_mem_nil _⟩⟩⟩⟩)
    case ho => exact ord_cons' (ktn_ltOf (by ktn_lt)) (ord_cons' (ktn_ltOf (by ktn_lt)) (ord_cons' (ktn_ltOf (by ktn_lt)) (fun _ _ _ h => nomatch h)))
theorem rep_tail0 {k pc pos c0 least hd0 : Int} {gs : List (Option (Int × Int))} {ls : List Cell} (h0 : 0 ≤ k) (hc0 : ls[k.toNat]? = some (.pair c0 pos)) (hc1 : c0 ≥ least) : RepSpec w 401 8 (.tail k least hd0) ⟨pc, pos, gs, ls⟩ none none := by
  have h := rep_tail (w := w) (least := least) (pc := pc) (pos := pos) (hd0 := hd0) (gs := gs) h0 hc0
  rwa [if_pos ⟨hc1, rfl⟩] at h
theorem rep_tail1 {k pc pos c0 b0 least hd0 : Int} {gs : List (Option (Int × Int))} {ls : List Cell} (h0 : 0 ≤ k) (hc0 : ls[k.toNat]? = some (.pair c0 b0)) (hc1 : ¬ c0 ≥ least) : RepSpec w 401 8 (.tail k least hd0) ⟨pc, pos, gs, ls⟩ (some ⟨hd0, pos, gs, ls.set k.toNat (.pair (c0 + 1) pos)⟩) none := by
  have h := rep_tail (w := w) (least := least) (pc := pc) (pos := pos) (hd0 := hd0) (gs := gs) h0 hc0
  rwa [if_neg (fun e => hc1 e.1)] at h
theorem rep_tail2 {k pc pos c0 b0 least hd0 : Int} {gs : List (Option (Int × Int))} {ls : List Cell} (h0 : 0 ≤ k) (hc0 : ls[k.toNat]? = some (.pair c0 b0)) (hc1 : c0 ≥ least) (hc2 : ¬ b0 = pos) : RepSpec w 401 8 (.tail k least hd0) ⟨pc, pos, gs, ls⟩ (some ⟨hd0, pos, gs, ls.set k.toNat (.pair (c0 + 1) pos)⟩) none := by
  have h := rep_tail (w := w) (least := least) (pc := pc) (pos := pos) (hd0 := hd0) (gs := gs) h0 hc0
  rwa [if_neg (fun e => hc2 e.2)] at h
section
noncomputable def searchSt : Stmt := (PySem.Challenge.rw_sz0083_01.row.prog.main.body[56]?).getD (.Pass ⟨0, 0, 0, 0⟩)
noncomputable def repSt : Stmt := match searchSt with | .ClassDef _ _ _ b _ _ _ _ _ _ _ => (b[8]?).getD (.Pass ⟨0, 0, 0, 0⟩) | _ => .Pass ⟨0, 0, 0, 0⟩
noncomputable def repScope : Scope := match repSt with | .FunctionDef _ _ _ _ _ _ s _ _ _ => s | _ => { kind := .module, names := [], isGenerator := false, isCoroutine := false }
noncomputable def repS (i : Nat) : Stmt := match repSt with | .FunctionDef _ _ b _ _ _ _ _ _ _ => (b[i]?).getD (.Pass ⟨0, 0, 0, 0⟩) | _ => .Pass ⟨0, 0, 0, 0⟩
section
theorem rep_pre {x z y g l yc : Addr} {k pc pos c0 b0 least fst bhd out : Int} {lz : Bool} {mv : Value} {a1 b1 c1 d1 f1 g1 t u tc uc : Tok} {lw : List Value} {me : Str → Option Value} {s0 s1 s2 s3 s4 s5 : Stmt} {rest : List Stmt} {Q : Flow → Shared → Prop}
    (i0 : s0 = repS 0) (i1 : s1 = repS 1) (i2 : s2 = repS 2) (i3 : s3 = repS 3) (i4 : s4 = repS 4) (i5 : s5 = repS 5) (hcs : cs = repScope)
    (hk0 : 0 ≤ k) (hk1 : k.toNat < lw.length) (hw : lw.length ≤ 1000) (hlw : lw[k.toNat]? = some (.ref yc)) (hm1 : me (Str.ofString "self") = some (.ref x)) (hm2 : me (Str.ofString "step") = some (.ref z)) (hm3 : me (Str.ofString "state") = some (.ref y))
    (B : Below A₀ base outer h₀) (F : Fr h₀ L s.heap me) (X : (kk.heap_1 w.params).In h₀) (T : Top p loose mean mg mb h₀) (hd : dp + 6 < recursionLimit) (hu : un + 48 < cLine) (N : News h₀ L s.heap news)
    (hz : (z, tup [.int 13 a1, .int k b1, .int least c1, mv, .bool lz, .int fst d1, .int bhd f1, .int out g1]) ∈ news) (hy : (y, tup [.int pc t, .int pos u, .ref g, .ref l]) ∈ news) (hl : (l, tup lw) ∈ news) (hc : (yc, tup [.int c0 tc, .int b0 uc]) ∈ news)
    (cont : ∀ h' tk m9 Dl, Fr h₀ L h' m9 → m9 (Str.ofString "self") = some (.ref x) → m9 (Str.ofString "step") = some (.ref z) → m9 (Str.ofString "pc") = some (.int pc t) → m9 (Str.ofString "at") = some (.int pos u) → m9 (Str.ofString "groups") = some (.ref g) → m9 (Str.ofString "loops") = some (.ref l) →
      m9 (Str.ofString "count") = some (.int c0 tc) → m9 (Str.ofString "least") = some (.int least c1) → m9 (Str.ofString "most") = some mv → m9 (Str.ofString "is_lazy") = some (.bool lz) → m9 (Str.ofString "first") = some (.int fst d1) → m9 (Str.ofString "behind") = some (.int bhd f1) → m9 (Str.ofString "leave") = some (.ref Dl) →
      News h₀ L h' ((Dl, tup [.int out g1, .int pos u, .ref g, .ref l]) :: news) → (∀ q ∈ news, q.1 < Dl) → wpAny (model PySem.Challenge.rw_sz0083_01.row.prog w) (ktrTop dp un gd cn cs L a ccd cl outer) (execs rest (envX cn cs L a ccd cl)) Q E { s with heap := h', toks := tk }) :
    wpAny (model PySem.Challenge.rw_sz0083_01.row.prog w) (ktrTop dp un gd cn cs L a ccd cl outer) (execs (s0 :: s1 :: s2 :: s3 :: s4 :: s5 :: rest) (envX cn cs L a ccd cl)) Q E s := by
  k_with "m eval Name" => ((fail_if_success (have z9 := @off15)); k_extra "w kwd_same2")
  conv at hcs => rhs; whnf
  subst hcs
  conv at i0 => rhs; whnf
  conv at i1 => rhs; whnf
  conv at i2 => rhs; whnf
  conv at i3 => rhs; whnf
  conv at i4 => rhs; whnf
  conv at i5 => rhs; whnf
  subst i0 i1 i2 i3 i4 i5
  have hi : k = (k.toNat : Int) := by omega
  k_steps
  all_goals first | k_data | skip
  rename Fr _ _ _ _ => F9
  exact cont _ _ _ _ F9 hm1 hm2 rfl rfl rfl rfl rfl rfl rfl rfl rfl rfl rfl (News_sub (by k_asm) (List.forall_mem_cons.mpr ⟨by k_mem, fun q hq => by (repeat (refine' List.mem_cons_of_mem _ ?_)); assumption⟩)) (ktn_ltOf (by ktn_lt))
theorem rep_if {mv : Value} {most : Option Int} {c0 : Int} {tc : Tok} {me : Str → Option Value} {s6 : Stmt} {Q : Flow → Shared → Prop}
    (hno : ∀ mx, most = some mx → ¬ c0 ≥ mx) (ho : OptV mv most) (i6 : s6 = repS 6) (hcs : cs = repScope) (hm1 : me (Str.ofString "most") = some mv) (hm2 : me (Str.ofString "count") = some (.int c0 tc))
    (B : Below A₀ base outer h₀) (F : Fr h₀ L s.heap me) (X : (kk.heap_1 w.params).In h₀) (T : Top p loose mean mg mb h₀) (hd : dp + 6 < recursionLimit) (hu : un + 48 < cLine) (N : News h₀ L s.heap news)
    (ret : ∀ h' tk, Fr h₀ L h' me → News h₀ L h' news → Q .next { s with heap := h', toks := tk }) :
    wpAny (model PySem.Challenge.rw_sz0083_01.row.prog w) (ktrTop dp un gd cn cs L a ccd cl outer) (exec s6 (envX cn cs L a ccd cl)) Q E s := by
  conv at hcs => rhs; whnf
  subst hcs
  conv at i6 => rhs; whnf
  subst i6
  cases ho with
  | none =>
    k_steps
    all_goals first | k_data | exact ret _ _ (by k_asm) (by k_asm)
  | @some mx t1 =>
    have hno' : ¬ c0 ≥ mx := hno mx rfl
    k_steps
    all_goals first | k_data | exact ret _ _ (by k_asm) (by k_asm)
theorem rep_for {fst : Int} {d1 f1 : Tok} {me : Str → Option Value} {s7 : Stmt} {rest : List Stmt} {Q : Flow → Shared → Prop}
    (hf : fst = 1 ∨ fst = 2) (i7 : s7 = repS 7) (hcs : cs = repScope) (hm1 : me (Str.ofString "first") = some (.int fst d1)) (hm2 : me (Str.ofString "behind") = some (.int fst f1))
    (B : Below A₀ base outer h₀) (F : Fr h₀ L s.heap me) (X : (kk.heap_1 w.params).In h₀) (T : Top p loose mean mg mb h₀) (hd : dp + 6 < recursionLimit) (hu : un + 48 < cLine) (N : News h₀ L s.heap news) (hPE : PassesOwn (model PySem.Challenge.rw_sz0083_01.row.prog w) (ktrTop dp un gd cn cs L a ccd cl outer) (envX cn cs L a ccd cl) E)
    (ret : ∀ h' tk, Fr h₀ L h' me → News h₀ L h' news → wpAny (model PySem.Challenge.rw_sz0083_01.row.prog w) (ktrTop dp un gd cn cs L a ccd cl outer) (execs rest (envX cn cs L a ccd cl)) Q E { s with heap := h', toks := tk }) :
    wpAny (model PySem.Challenge.rw_sz0083_01.row.prog w) (ktrTop dp un gd cn cs L a ccd cl outer) (execs (s7 :: rest) (envX cn cs L a ccd cl)) Q E s := by
  conv at hcs => rhs; whnf
  subst hcs
  conv at i7 => rhs; whnf
  subst i7
  rcases hf with rfl | rfl
  · k_steps
    all_goals first | k_data | exact ret _ _ (by k_asm) (News_sub (by k_asm) (fun q hq => by (repeat (refine' List.mem_cons_of_mem _ ?_)); assumption))
  · k_steps
    all_goals first | k_data | exact ret _ _ (by k_asm) (News_sub (by k_asm) (fun q hq => by (repeat (refine' List.mem_cons_of_mem _ ?_)); assumption))
end
theorem off15 : True := trivial
end
section
theorem kw9 : True := by
  k_with "m eval Name" => ((fail_if_success (have z9 := @off16)); k_extra "w kwd_same2")
  trivial
theorem lt_one {lst y : Addr} {l : Obj} {R : List (Addr × Obj)} (hin : ∀ q ∈ news, q = (lst, l) ∨ q ∈ R) (h1 : @LT.lt Nat _ lst y) (h3 : AllLt y R) : ∀ q ∈ news, q.1 < y := fun q hq => by
  rcases hin q hq with rfl | e
  · exact h1
  · exact ktn_ltOf h3 q e
theorem tup_in1 {lst y : Addr} {its : Array Value} {c : Nat} {R : List (Addr × Obj)} {vs : List Value} (hin : ∀ q ∈ news, q = (lst, listOf its c) ∨ q ∈ R) (h : (y, tup vs) ∈ news) : (y, tup vs) ∈ R :=
  (hin _ h).resolve_left (fun e => absurd (show Value.type "tuple" = .type "list" from congrArg (fun q : Addr × Obj => q.2.cls) e) (by decide))
theorem rep_leave {k pc pos c0 b0 least mx fst bhd out : Int} {lz : Bool} {gs : List (Option (Int × Int))} {ls : List Cell} (h0 : 0 ≤ k) (hc0 : ls[k.toNat]? = some (.pair c0 b0)) (hc1 : c0 ≥ mx) : RepSpec w 401 8 (.head k least (some mx) lz fst bhd out) ⟨pc, pos, gs, ls⟩ (some ⟨out, pos, gs, ls⟩) none := by
  intro p loose mean mg mb dp un gd cn cs L a ccd cl outer A₀ base h₀ m s Q E news upd x dx lst z y k1 k2 k3 k4 k5 k6 sv tv lv its c R' B F X T hk hd hu N hx hx2 U hz hR hg1 hl1 hst hsp ret
  cases hst with
  | @mk _ g l _ _ t u _ _ gv lw hy hg hgs hl hls =>
  cases hsp with
  | @head _ a1 b1 c1 d1 e1 f1 mv _ _ _ _ _ _ _ hzm ho =>
  have h1 := get_lt hc0
  obtain ⟨v, hv, hcell⟩ := hls.get hc0
  cases hcell with
  | @pair yc _ _ tc uc hcm =>
  cases ho
  have e1 := hgs.length
  have e2 := hls.length
  simp only at hg1 hl1
  have hi : k = (k.toNat : Int) := by omega
  have ha : k.toNat < lw.length := by omega
  have hw : lw.length ≤ 1000 := by omega
  have hy' := hR _ hy
  have hg' := hR _ hg
  have hl' := hR _ hl
  have hz' := hR _ hzm
  have hc' := hR _ hcm
  refine wpAny_call ?_
  k_dflt ktr_enter
  k_dflt (refine' rep_pre rfl rfl rfl rfl rfl rfl rfl h0 ha hw hv ?m1 ?m2 ?m3 ?B ?F ?X ?T ?hd ?hu ?N ?hz ?hy ?hl ?hc ?_; (case F => k_asm); (case m1 => exact rfl); (case m2 => exact rfl); (case m3 => exact rfl); k_extra "w kpf_close"; (case hz => k_mem); (case hy => k_mem); (case hl => k_mem); (case hc => k_mem))
  intro h' tk' m9 Dl F' n1 n2 n3 n4 n5 n6 n7 n8 n9 n10 n11 n12 n13 N' l1
  (try k_lt l1)
  (try k_sweep)
  k_steps
  refine' ret _ _ _ its c [_] (by k_asm) ?hb ?ho (.some (.mk (List.mem_append_right _ (.head _)) (List.mem_append_left _ hg) (hgs.mono fun _ _ h => h.mono fun q hq => List.mem_append_left _ hq) (List.mem_append_left _ hl) (hls.mono fun _ _ h => h.mono fun q hq => List.mem_append_left _ hq))) .none
  case hb => exact News_sub (by assumption : News h₀ L _ (_ :: _)) (List.forall_mem_append.mpr ⟨fun q hq => by (have hq := upd_self U q hq); (repeat (refine' List.mem_cons_of_mem _ ?_)); assumption, List.forall_mem_cons.mpr ⟨by k_mem, List.forall_mem_nil _⟩⟩)
  case ho => exact (ord_cons' (ktn_ltOf (by ktn_lt)) (fun _ _ _ h => nomatch h))
theorem rep_once12 {k pc pos c0 b0 least mx out : Int} {lz : Bool} {gs : List (Option (Int × Int))} {ls : List Cell} (h0 : 0 ≤ k) (hc0 : ls[k.toNat]? = some (.pair c0 b0)) (hc1 : ¬ c0 ≥ mx) (hc2 : c0 < least) (hgl : 0 < gs.length) : RepSpec w 401 8 (.head k least (some mx) lz 1 2 out) ⟨pc, pos, gs, ls⟩ (some ⟨pc + 1, pos, gs.set 0 Option.none, ls.set k.toNat (.pair c0 pos)⟩) none := by
  intro p loose mean mg mb dp un gd cn cs L a ccd cl outer A₀ base h₀ m s Q E news upd x dx lst z y k1 k2 k3 k4 k5 k6 sv tv lv its c R' B F X T hk hd hu N hx hx2 U hz hR hg1 hl1 hst hsp ret
  cases hst with
  | @mk _ g l _ _ t u _ _ gv lw hy hg hgs hl hls =>
  cases hsp with
  | @head _ a1 b1 c1 d1 e1 f1 mv _ _ _ _ _ _ _ hzm ho =>
  have h1 := get_lt hc0
  obtain ⟨v, hv, hcell⟩ := hls.get hc0
  cases hcell with
  | @pair yc _ _ tc uc hcm =>
  cases ho
  have e1 := hgs.length
  have e2 := hls.length
  simp only at hg1 hl1
  have hi : k = (k.toNat : Int) := by omega
  have ha : k.toNat < lw.length := by omega
  have hw : lw.length ≤ 1000 := by omega
  have hy' := hR _ hy
  have hg' := hR _ hg
  have hl' := hR _ hl
  have hz' := hR _ hzm
  have hc' := hR _ hcm
  have hgl : 0 < gs.length := hgl
  have hga : 0 < gv.length := by omega
  have hgz : gv.length ≤ 1000 := by omega
  have hgi : (1 : Int) - 1 = ((0 : Nat) : Int) := rfl
  have hgi2 : (0 : Int) = ((0 : Nat) : Int) := rfl
  refine wpAny_call ?_
  k_dflt ktr_enter
  k_dflt (refine' rep_pre rfl rfl rfl rfl rfl rfl rfl h0 ha hw hv ?m1 ?m2 ?m3 ?B ?F ?X ?T ?hd ?hu ?N ?hz ?hy ?hl ?hc ?_; (case F => k_asm); (case m1 => exact rfl); (case m2 => exact rfl); (case m3 => exact rfl); k_extra "w kpf_close"; (case hz => k_mem); (case hy => k_mem); (case hl => k_mem); (case hc => k_mem))
  intro h' tk' m9 Dl F' n1 n2 n3 n4 n5 n6 n7 n8 n9 n10 n11 n12 n13 N' l1
  (try k_lt l1)
  (try k_sweep)
  k_steps
  rename (_ < _ ∧ _ < _ ∧ AllLt _ news) => lY
  rename (_ < _ ∧ AllLt _ news) => lI
  refine' UnrEnd.intro (by k_asm) (by k_asm) ((_, tup (List.take 0 gv ++ [Value.none] ++ List.drop (0 + 1) gv)) :: news) ?sub ?off ?_
  case sub => exact List.forall_mem_cons.mpr ⟨by k_mem, List.forall_mem_cons.mpr ⟨by k_mem, fun q hq => by (repeat (refine' List.mem_cons_of_mem _ ?_)); assumption⟩⟩
  case off => exact List.forall_mem_cons.mpr ⟨Nat.ne_of_gt lY.1, fun q hq => Nat.ne_of_lt (ktn_ltOf lI.2 q hq)⟩
  k_steps
  refine' ret _ _ _ its c [_, _, _, _] (by k_asm) ?hb ?ho (.some (.mk (List.mem_append_right _ (.head _)) (List.mem_append_right _ (.tail _ (.tail _ (.tail _ (.head _))))) (AllIn.set (hgs.mono fun _ _ h => h.mono fun q hq => List.mem_append_left _ hq) hgl .none) (List.mem_append_right _ (.tail _ (.head _))) (AllIn.set (hls.mono fun _ _ h => h.mono fun q hq => List.mem_append_left _ hq) h1 (.pair (List.mem_append_right _ (.tail _ (.tail _ (.head _)))))))) .none
  case hb => exact News_sub (by assumption : News h₀ L _ (_ :: _)) (List.forall_mem_append.mpr ⟨fun q hq => by (have hq := upd_self U q hq); (repeat (refine' List.mem_cons_of_mem _ ?_)); assumption, List.forall_mem_cons.mpr ⟨by k_mem, List.forall_mem_cons.mpr ⟨by k_mem, List.forall_mem_cons.mpr ⟨by k_mem, List.forall_mem_cons.mpr ⟨by k_mem, List.forall_mem_nil _⟩⟩⟩⟩⟩)
  case ho => exact (ord_cons' (ktn_ltOf (by ktn_lt)) (ord_cons' (ktn_ltOf (by ktn_lt)) (ord_cons' (ktn_ltOf (by ktn_lt)) (ord_cons' (ktn_ltOf (by ktn_lt)) (fun _ _ _ h => nomatch h)))))
end
theorem off16 : True := trivial
section
theorem rep_go {k pc pos c0 b0 least fst out : Int} {most : Option Int} {lz : Bool} {gs : List (Option (Int × Int))} {ls : List Cell} (h0 : 0 ≤ k) (hc0 : ls[k.toNat]? = some (.pair c0 b0)) (hno : ∀ mx, most = some mx → ¬ c0 ≥ mx) (hf : fst = 1 ∨ fst = 2) : RepSpec w 401 8 (.head k least most lz fst fst out) ⟨pc, pos, gs, ls⟩ (if c0 < least then (some ⟨pc + 1, pos, gs, ls.set k.toNat (.pair c0 pos)⟩) else if lz = true then (some ⟨out, pos, gs, ls⟩) else (some ⟨pc + 1, pos, gs, ls.set k.toNat (.pair c0 pos)⟩)) (if c0 < least then none else if lz = true then (some ⟨pc + 1, pos, gs, ls.set k.toNat (.pair c0 pos)⟩) else (some ⟨out, pos, gs, ls⟩)) := by
  k_with "m eval Name" => ((fail_if_success (have z9 := @off17)); k_extra "w kwd_same2")
  k_with "m exec If" => ((fail_if_success (have z9 := @off17)); (k_here; k_dflt (refine' rep_if ?hno ?ho ?i6 ?hcs ?hm1 ?hm2 ?B ?F ?X ?T ?hd ?hu ?N ?_; (case i6 => exact rfl); (case F => k_asm); (case hcs => exact rfl); (case hm1 => assumption); (case hm2 => assumption); (case hno => assumption); (case ho => assumption); k_extra "w kpf_close"); intro h' tk' F' N'; (try k_sweep)))
  k_with "m execs cons" => ((fail_if_success (have z9 := @off17)); (k_here; k_dflt (refine' rep_for ?hf ?i7 ?hcs ?hm1 ?hm2 ?B ?F ?X ?T ?hd ?hu ?N ?hPE ?_; (case i7 => exact rfl); (case hPE => exact PassesOwn.leaving); (case F => k_asm); (case hcs => exact rfl); (case hm1 => assumption); (case hm2 => assumption); (case hf => assumption); k_extra "w kpf_close"); intro h' tk' F' N'; (try k_sweep)))
  intro p loose mean mg mb dp un gd cn cs L a ccd cl outer A₀ base h₀ m s Q E news upd x dx lst z y k1 k2 k3 k4 k5 k6 sv tv lv its c R' B F X T hk hd hu N hx hx2 U hz hR hg1 hl1 hst hsp ret
  cases hst with
  | @mk _ g l _ _ t u _ _ gv lw hy hg hgs hl hls =>
  cases hsp with
  | @head _ a1 b1 c1 d1 e1 f1 mv _ _ _ _ _ _ _ hzm ho =>
  have h1 := get_lt hc0
  obtain ⟨v, hv, hcell⟩ := hls.get hc0
  cases hcell with
  | @pair yc _ _ tc uc hcm =>
  have e1 := hgs.length
  have e2 := hls.length
  simp only at hg1 hl1
  have hi : k = (k.toNat : Int) := by omega
  have ha : k.toNat < lw.length := by omega
  have hw : lw.length ≤ 1000 := by omega
  have hy' := hR _ hy
  have hg' := hR _ hg
  have hl' := hR _ hl
  have hz' := hR _ hzm
  have hc' := hR _ hcm
  obtain ⟨R, hR9, hin, N, back⟩ := Upd_use2 U N
  have hx := (hin _ hx).resolve_left (fun e => by cases e)
  have hx2 := (hin _ hx2).resolve_left (fun e => absurd (show Value.type "dict" = .type "list" from congrArg (fun q : Addr × Obj => q.2.cls) e) (by decide))
  have hy' := tup_in1 hin hy'
  have hg' := tup_in1 hin hg'
  have hl' := tup_in1 hin hl'
  have hz' := tup_in1 hin hz'
  have hc' := tup_in1 hin hc'
  have hgw : gv.length < 100 := by omega
  clear U
  refine wpAny_call ?_
  k_dflt ktr_enter
  k_dflt (refine' rep_pre rfl rfl rfl rfl rfl rfl rfl h0 ha hw hv ?m1 ?m2 ?m3 ?B ?F ?X ?T ?hd ?hu ?N ?hz ?hy ?hl ?hc ?_; (case F => k_asm); (case m1 => exact rfl); (case m2 => exact rfl); (case m3 => exact rfl); k_extra "w kpf_close"; (case hz => k_mem); (case hy => k_mem); (case hl => k_mem); (case hc => k_mem))
  intro h' tk' m9 Dl F' n1 n2 n3 n4 n5 n6 n7 n8 n9 n10 n11 n12 n13 N' l1
  (try k_lt l1)
  (try k_sweep)
  k_steps
  · rename (_ < least) => h9
    rw [if_pos h9, if_pos h9] at ret
    refine' ret _ _ _ _ c [_, _, _] (by k_asm) ?hb ?ho (.some (.mk (List.mem_append_right _ (.head _)) (List.mem_append_left _ hg) (hgs.mono fun _ _ h => h.mono fun q hq => List.mem_append_left _ hq) (List.mem_append_right _ (.tail _ (.head _))) (AllIn.set (hls.mono fun _ _ h => h.mono fun q hq => List.mem_append_left _ hq) h1 (.pair (List.mem_append_right _ (.tail _ (.tail _ (.head _)))))))) .none
    case hb => exact back _ _ _ (News3 (by assumption : News h₀ L _ (_ :: _)) (by k_mem) (fun q hq => by k_ownIn) (List.forall_mem_cons.mpr ⟨by k_mem, List.forall_mem_cons.mpr ⟨by k_mem, List.forall_mem_cons.mpr ⟨by k_mem, List.forall_mem_nil _⟩⟩⟩))
    case ho => exact (ord_cons' (lt_one hin (by omega) (by ktn_lt)) (ord_cons' (lt_one hin (by omega) (by ktn_lt)) (ord_cons' (lt_one hin (by omega) (by ktn_lt)) (fun _ _ _ h => nomatch h))))
  · rename (¬ _ < least) => h9
    rename (lz = true) => h8
    rw [if_neg h9, if_neg h9, if_pos h8, if_pos h8] at ret
    refine' ret _ _ _ _ (c + 1) [_, _, _, _] (by k_asm) ?hb ?ho (.some (.mk (List.mem_append_right _ (.head _)) (List.mem_append_left _ hg) (hgs.mono fun _ _ h => h.mono fun q hq => List.mem_append_left _ hq) (List.mem_append_left _ hl) (hls.mono fun _ _ h => h.mono fun q hq => List.mem_append_left _ hq))) (.some (.mk (List.mem_append_right _ (.tail _ (.head _))) (List.mem_append_left _ hg) (hgs.mono fun _ _ h => h.mono fun q hq => List.mem_append_left _ hq) (List.mem_append_right _ (.tail _ (.tail _ (.head _)))) (AllIn.set (hls.mono fun _ _ h => h.mono fun q hq => List.mem_append_left _ hq) h1 (.pair (List.mem_append_right _ (.tail _ (.tail _ (.tail _ (.head _)))))))))
    case hb => exact back _ _ _ (News3 (by assumption : News h₀ L _ (_ :: _)) (by k_mem) (fun q hq => by k_ownIn) (List.forall_mem_cons.mpr ⟨by k_mem, List.forall_mem_cons.mpr ⟨by k_mem, List.forall_mem_cons.mpr ⟨by k_mem, List.forall_mem_cons.mpr ⟨by k_mem, List.forall_mem_nil _⟩⟩⟩⟩))
    case ho => exact (ord_cons' (lt_one hin (by omega) (by ktn_lt)) (ord_cons' (lt_one hin (by omega) (by ktn_lt)) (ord_cons' (lt_one hin (by omega) (by ktn_lt)) (ord_cons' (lt_one hin (by omega) (by ktn_lt)) (fun _ _ _ h => nomatch h)))))
  · rename (¬ _ < least) => h9
    rename (lz = false) => h7
    have h8 : ¬ lz = true := by rw [h7]; exact Bool.false_ne_true
    rw [if_neg h9, if_neg h9, if_neg h8, if_neg h8] at ret
    refine' ret _ _ _ _ (c + 1) [_, _, _, _] (by k_asm) ?hb ?ho (.some (.mk (List.mem_append_right _ (.head _)) (List.mem_append_left _ hg) (hgs.mono fun _ _ h => h.mono fun q hq => List.mem_append_left _ hq) (List.mem_append_right _ (.tail _ (.head _))) (AllIn.set (hls.mono fun _ _ h => h.mono fun q hq => List.mem_append_left _ hq) h1 (.pair (List.mem_append_right _ (.tail _ (.tail _ (.head _)))))))) (.some (.mk (List.mem_append_right _ (.tail _ (.tail _ (.tail _ (.head _))))) (List.mem_append_left _ hg) (hgs.mono fun _ _ h => h.mono fun q hq => List.mem_append_left _ hq) (List.mem_append_left _ hl) (hls.mono fun _ _ h => h.mono fun q hq => List.mem_append_left _ hq)))
    case hb => exact back _ _ _ (News3 (by assumption : News h₀ L _ (_ :: _)) (by k_mem) (fun q hq => by k_ownIn) (List.forall_mem_cons.mpr ⟨by k_mem, List.forall_mem_cons.mpr ⟨by k_mem, List.forall_mem_cons.mpr ⟨by k_mem, List.forall_mem_cons.mpr ⟨by k_mem, List.forall_mem_nil _⟩⟩⟩⟩))
    case ho => exact (ord_cons' (lt_one hin (by omega) (by ktn_lt)) (ord_cons' (lt_one hin (by omega) (by ktn_lt)) (ord_cons' (lt_one hin (by omega) (by ktn_lt)) (ord_cons' (lt_one hin (by omega) (by ktn_lt)) (fun _ _ _ h => nomatch h)))))
theorem rep_once {k pc pos c0 b0 least fst out : Int} {most : Option Int} {lz : Bool} {gs : List (Option (Int × Int))} {ls : List Cell} (h0 : 0 ≤ k) (hc0 : ls[k.toNat]? = some (.pair c0 b0)) (hno : ∀ mx, most = some mx → ¬ c0 ≥ mx) (hf : fst = 1 ∨ fst = 2) (hc2 : c0 < least) : RepSpec w 401 8 (.head k least most lz fst fst out) ⟨pc, pos, gs, ls⟩ (some ⟨pc + 1, pos, gs, ls.set k.toNat (.pair c0 pos)⟩) none := by
  have h := rep_go (w := w) (least := least) (fst := fst) (out := out) (lz := lz) (pc := pc) (pos := pos) (gs := gs) h0 hc0 hno hf
  rwa [if_pos hc2, if_pos hc2] at h
theorem rep_lazy {k pc pos c0 b0 least fst out : Int} {most : Option Int} {gs : List (Option (Int × Int))} {ls : List Cell} (h0 : 0 ≤ k) (hc0 : ls[k.toNat]? = some (.pair c0 b0)) (hno : ∀ mx, most = some mx → ¬ c0 ≥ mx) (hf : fst = 1 ∨ fst = 2) (hc2 : ¬ c0 < least) : RepSpec w 401 8 (.head k least most true fst fst out) ⟨pc, pos, gs, ls⟩ (some ⟨out, pos, gs, ls⟩) (some ⟨pc + 1, pos, gs, ls.set k.toNat (.pair c0 pos)⟩) := by
  have h := rep_go (w := w) (least := least) (fst := fst) (out := out) (lz := true) (pc := pc) (pos := pos) (gs := gs) h0 hc0 hno hf
  rwa [if_neg hc2, if_neg hc2] at h
theorem rep_greedy {k pc pos c0 b0 least fst out : Int} {most : Option Int} {gs : List (Option (Int × Int))} {ls : List Cell} (h0 : 0 ≤ k) (hc0 : ls[k.toNat]? = some (.pair c0 b0)) (hno : ∀ mx, most = some mx → ¬ c0 ≥ mx) (hf : fst = 1 ∨ fst = 2) (hc2 : ¬ c0 < least) : RepSpec w 401 8 (.head k least most false fst fst out) ⟨pc, pos, gs, ls⟩ (some ⟨pc + 1, pos, gs, ls.set k.toNat (.pair c0 pos)⟩) (some ⟨out, pos, gs, ls⟩) := by
  have h := rep_go (w := w) (least := least) (fst := fst) (out := out) (lz := false) (pc := pc) (pos := pos) (gs := gs) h0 hc0 hno hf
  rwa [if_neg hc2, if_neg hc2] at h
end
theorem off17 : True := trivial
theorem ite_some {α : Type} {c : Prop} [Decidable c] {a b : Option α} {x : α} (h : (if c then a else b) = some x) : (c ∧ a = some x) ∨ (¬ c ∧ b = some x) := by
  by_cases q : c
  · exact .inl ⟨q, by rwa [if_pos q] at h⟩
  · exact .inr ⟨q, by rwa [if_neg q] at h⟩
theorem rep_all {stp : Stp} {st : St} {nx kp : Option St} (h : rep stp st = some (nx, kp)) : RepSpec w 401 8 stp st nx kp := by
  obtain ⟨pc, pos, gs, ls⟩ := st
  cases stp with
  | loop k =>
    replace h := ite_some h
    rcases h with ⟨h1, h⟩ | ⟨_, h⟩
    · cases h; exact rep_loop h1.1 h1.2
    · cases h
  | tail k least hd0 =>
    replace h := ite_some h
    rcases h with ⟨h0, h⟩ | ⟨_, h⟩
    · split at h
      · rename_i c0 b0 hc0
        replace h := ite_some h
        rcases h with ⟨h2, h⟩ | ⟨h2, h⟩
        · cases h; obtain ⟨h2, rfl⟩ := h2; exact rep_tail0 h0 hc0 h2
        · cases h
          by_cases h3 : c0 ≥ least
          · exact rep_tail2 h0 hc0 h3 (fun e => h2 ⟨h3, e⟩)
          · exact rep_tail1 h0 hc0 h3
      · cases h
    · cases h
  | head k least most lz first behind out =>
    replace h := ite_some h
    rcases h with ⟨h0, h⟩ | ⟨_, h⟩
    case inr => cases h
    split at h
    case h_2 => cases h
    rename_i c0 b0 hc0
    replace h := ite_some h
    rcases h with ⟨h1, h⟩ | ⟨h1, h⟩
    · cases most with
      | none => cases h1
      | some mx => cases h; exact rep_leave h0 hc0 (of_decide_eq_true h1)
    have hno : ∀ mx, most = some mx → ¬ c0 ≥ mx := fun mx e q => by subst e; exact h1 (decide_eq_true q)
    clear h1
    replace h := ite_some h
    rcases h with ⟨⟨rfl, rfl⟩, h⟩ | ⟨_, h⟩
    · replace h := ite_some h
      rcases h with ⟨h3, h⟩ | ⟨h3, h⟩
      · cases h; exact rep_once h0 hc0 hno (.inl rfl) h3
      · replace h := ite_some h
        rcases h with ⟨rfl, h⟩ | ⟨h4, h⟩
        · cases h; exact rep_lazy h0 hc0 hno (.inl rfl) h3
        · cases h; cases lz with
          | true => exact absurd rfl h4
          | false => exact rep_greedy h0 hc0 hno (.inl rfl) h3
    · replace h := ite_some h
      rcases h with ⟨⟨rfl, rfl, h3, _⟩, h⟩ | ⟨_, h⟩
      · cases h; exact rep_once h0 hc0 hno (.inr rfl) h3
      · replace h := ite_some h
        rcases h with ⟨⟨rfl, rfl, h3, h4, h5⟩, h⟩ | ⟨_, h⟩
        · obtain ⟨mx, rfl⟩ := Option.isSome_iff_exists.mp h4
          cases h; exact rep_once12 h0 hc0 (hno mx rfl) h3 h5
        · cases h
  | chr => cases h
  | met => cases h
  | opn g => cases h
  | cls g => cases h
/-- the text: size letters a, then nothing or a letter b -/
noncomputable def TxOk (tx : Str) (size : Int) : Prop := tx.length ≤ 1000 ∧ 0 ≤ size ∧ size ≤ tx.length ∧ (∀ i : Int, 0 ≤ i → i < size → tx.cps[i.toNat]? = some 97) ∧ (size < tx.length → tx.cps[size.toNat]? = some 98)
theorem item_eq {tx : Str} {i : Int} {c : Nat} (h0 : 0 ≤ i) (h1 : tx.cps[i.toNat]? = some c) : Txt.item tx i = ⟨#[c]⟩ := by
  have hl : i.toNat < tx.cps.size := by
    rcases Nat.lt_or_ge i.toNat tx.cps.size with h | h
    · exact h
    · rw [Array.getElem?_eq_none h] at h1; cases h1
  have hc : Txt.charAt tx i = some c := by
    unfold Txt.charAt seqIndex?
    have h2 : ¬ i < 0 := by omega
    have h3 : i < (tx.length : Int) := by unfold PySem.Str.length; omega
    simp only [if_neg h2]
    simp [h0, h3, h1]
  unfold Txt.item
  rw [hc]; rfl
theorem str_at {prog : Program} {A : Around} {value slice : PySem.Expr} {tx : Str} {t u : Tok} {i : Int} {c : Nat} (h0 : 0 ≤ i) (h1 : tx.cps[i.toNat]? = some c) (hz : tx.length ≤ 1000) (h : ∀ t' tk, Q (.str ⟨#[c]⟩ t') { s with toks := tk })
    (hs : subscripted slice false (.str tx t) (.int i u) = operate [.str tx t, .int i u] (getItem (.str tx t) (.int i u)))
    (ht : ∀ r, letTemporaryGo value (.str tx t) r = pure ()) :
    wpAny (model prog w) A (subscriptTail value slice (.str tx t) (.int i u)) Q E s := by
  have hl : i.toNat < tx.cps.size := by
    rcases Nat.lt_or_ge i.toNat tx.cps.size with h | h
    · exact h
    · rw [Array.getElem?_eq_none h] at h1; cases h1
  have hl2 : tx.length = tx.cps.size := rfl
  refine KXi.item rfl (by omega) (by omega) (by omega) (fun _ => ?_) hs ht
  rw [item_eq h0 h1]
  exact h _ _
theorem takes0_c {x dx y : Addr} {k1 k2 k3 k4 k5 k6 t1 t2 t3 : Tok} {sv tv lv wv : Value}
    (B : Below A₀ base outer h₀) (F : Fr h₀ L s.heap m) (X : (kk.heap_1 w.params).In h₀) (T : Top p loose mean mg mb h₀) (hk : cs.kind = .function) (hd : dp + 4 < recursionLimit) (hu : un + 32 < cLine)
    (N : News h₀ L s.heap news) (hx : (x, instObj 404 dx) ∈ news) (hx2 : (dx, sdict w k1 k2 k3 k4 k5 k6 sv tv lv wv) ∈ news) (hm : (y, tup [.int 0 t1, .int 97 t2]) ∈ news)
    (ret : ∀ h' tk, Fr h₀ L h' m → News h₀ L h' news → Q (.bool false) { s with heap := h', toks := tk }) :
    wpAny (model PySem.Challenge.rw_sz0083_01.row.prog w) (ktrTop dp un gd cn cs L a ccd cl outer) (call (.ref 373) [.ref x, .ref y, .int 98 t3]) Q E s := by
  k_with "m subscriptTail" => ((k_here; (with_reducible show wpAny _ _ (subscriptTail _ _ (Value.str _ _) (Value.int _ _)) _ _ _); k_dflt (refine' str_at ?h0 ?h1 ?hz ?_ ?hs ?ht; (case h1 => first | assumption | exact hat (by assumption)); (case h0 => kwd_inv); (case hz => kwd_inv); (case hs => with_unfolding_all rfl); (case ht => intro _; with_unfolding_all rfl)); intro t' tk'))
  k_with "m call builtin:len" => ((k_here; (with_reducible show wpAny _ _ (call (Value.builtin "len") [Value.str _ _]) _ _ _); k_dflt (refine P.len_str (by omega) ?_)))
  refine wpAny_call ?_
  k_dflt ktr_enter
  k_steps
  exact ret _ _ (by k_asm) (by k_asm)
noncomputable def AdvSpec (w : World) (size : Int) (stp : Stp) (st : St) (nx kp : Option St) : Prop :=
  ∀ (p : Program) (loose : List Str) (mean : ExcName → Option Value) (mg mb : Str → Option Value) (dp un : Nat) (gd : Option (List Code)) (cn : Str) (cs : Scope) (L a : Addr) (ccd : Value) (cl : List (Str × Addr)) (outer : List Env) (A₀ : Around) (base h₀ : Heap) (m : Str → Option Value) (s : Shared) (Q E : Value → Shared → Prop) (news : List (Addr × Obj)) (upd : Obj → List (Addr × Obj)) (x dx lst z y : Addr) (k1 k2 k3 k4 k5 k6 : Tok) (sv lv : Value) (its : Array Value) (c : Nat) (R' : List (Addr × Obj)) (tx : Str) (tt : Tok),
    Below A₀ base outer h₀ → Fr h₀ L s.heap m → (kk.heap_1 w.params).In h₀ → Top p loose mean mg mb h₀ → cs.kind = .function → dp + 12 < recursionLimit → un + 96 < cLine → News h₀ L s.heap news → (x, instObj 404 dx) ∈ news → (dx, sdict w k1 k2 k3 k4 k5 k6 sv (.str tx tt) lv (.ref lst)) ∈ news →
    (∀ o', Upd lst (listOf its c) o' news (upd o')) → its.size < 1000 → (∀ q ∈ R', q ∈ news) → TxOk tx size → 0 ≤ st.pos → st.pos ≤ size → st.gs.length < 50 → st.ls.length < 50 → StIn R' (.ref y) st → StpIn R' (.ref z) stp →
    (∀ h' tk v its' c' tl, Fr h₀ L h' m → News h₀ L h' (upd (listOf its' c') ++ tl) → (∀ q ∈ news, ∀ p ∈ tl, q.1 < p.1) → OutIn (R' ++ tl) v nx → KeptIn (R' ++ tl) its its' kp → Q v { s with heap := h', toks := tk }) →
    wpAny (model PySem.Challenge.rw_sz0083_01.row.prog w) (ktrTop dp un gd cn cs L a ccd cl outer) (call (.ref 366) [.ref x, .ref z, .ref y]) Q E s
theorem adv_chr1 {size pc pos : Int} {gs : List (Option (Int × Int))} {ls : List Cell} (h1 : pos < size) : AdvSpec w size .chr ⟨pc, pos, gs, ls⟩ (some ⟨pc + 1, pos + 1, gs, ls⟩) none := by
  k_with "m call ref" => ((k_here; k_dflt (show wpAny _ _ (call (Value.ref 373) _) _ _ _); k_dflt (refine' takes_c ?B ?F ?X ?T ?hk ?hd ?hu ?N ?mq1 ?_; k_extra "w kpf_c"; (case N => k_asm); (case mq1 => k_mem); k_extra "w kcf_m"); intro h' tk' F' N'; k_extra "w kbo_bools"))
  k_with "m call ref" => ((k_here; k_dflt (show wpAny _ _ (call (Value.ref 373) _) _ _ _); k_dflt (refine' takes0_c ?B ?F ?X ?T ?hk ?hd ?hu ?N ?mq1 ?mq2 ?mq3 ?_; k_extra "w kpf_c"; (case N => k_asm); (case mq1 => k_mem); (case mq2 => k_mem); (case mq3 => k_mem); k_extra "w kcf_m"); intro h' tk' F' N'; k_extra "w kbo_bools"))
  intro p loose mean mg mb dp un gd cn cs L a ccd cl outer A₀ base h₀ m s Q E news upd x dx lst z y k1 k2 k3 k4 k5 k6 sv lv its c R' tx tt B F X T hk hd hu N hx hx2 U hz hR hT hp0 hp1 hg1 hl1 hst hsp ret
  cases hst with
  | @mk _ g l _ _ t u _ _ gv lw hy hg hgs hl hls =>
  cases hsp with
  | @chr _ a1 b1 hzm =>
  have e1 := hgs.length
  have e2 := hls.length
  simp only at hg1 hl1 hp0 hp1
  obtain ⟨hT1, hT2, hT3, hT4, hT5⟩ := hT
  have hw : lw.length ≤ 1000 := by omega
  have hgw : gv.length ≤ 1000 := by omega
  have hy' := hR _ hy
  have hg' := hR _ hg
  have hl' := hR _ hl
  have hz' := hR _ hzm
  have h2 := hT4 pos hp0 h1
  have h3 : pos < (tx.length : Int) := by omega
  refine wpAny_call ?_
  k_dflt ktr_enter
  k_steps
  refine' ret _ _ _ its c [_] (by k_asm) ?hb ?ho (.some (.mk (List.mem_append_right _ (.head _)) (List.mem_append_left _ hg) (hgs.mono fun _ _ h => h.mono fun q hq => List.mem_append_left _ hq) (List.mem_append_left _ hl) (hls.mono fun _ _ h => h.mono fun q hq => List.mem_append_left _ hq))) .none
  case hb => exact News_sub (by assumption : News h₀ L _ (_ :: _)) (List.forall_mem_append.mpr ⟨fun q hq => by (have hq := upd_self U q hq); (repeat (refine' List.mem_cons_of_mem _ ?_)); assumption, List.forall_mem_cons.mpr ⟨by k_mem, List.forall_mem_nil _⟩⟩)
  case ho => exact (ord_cons' (ktn_ltOf (by ktn_lt)) (fun _ _ _ h => nomatch h))
theorem adv_chr2 {size pc pos : Int} {gs : List (Option (Int × Int))} {ls : List Cell} (h1 : pos = size) : AdvSpec w size .chr ⟨pc, pos, gs, ls⟩ none none := by
  intro p loose mean mg mb dp un gd cn cs L a ccd cl outer A₀ base h₀ m s Q E news upd x dx lst z y k1 k2 k3 k4 k5 k6 sv lv its c R' tx tt B F X T hk hd hu N hx hx2 U hz hR hT hp0 hp1 hg1 hl1 hst hsp ret
  cases hst with
  | @mk _ g l _ _ t u _ _ gv lw hy hg hgs hl hls =>
  cases hsp with
  | @chr _ a1 b1 hzm =>
  have e1 := hgs.length
  have e2 := hls.length
  simp only at hg1 hl1 hp0 hp1
  obtain ⟨hT1, hT2, hT3, hT4, hT5⟩ := hT
  have hw : lw.length ≤ 1000 := by omega
  have hgw : gv.length ≤ 1000 := by omega
  have hy' := hR _ hy
  have hg' := hR _ hg
  have hl' := hR _ hl
  have hz' := hR _ hzm
  subst h1
  have hat := hT5
  refine wpAny_call ?_
  k_dflt ktr_enter
  k_steps
  all_goals exact ret _ _ _ its c [] (by k_asm) (by rw [List.append_nil]; exact News_sub (by k_asm) (fun q hq => by (have hq := upd_self U q hq); (repeat (refine' List.mem_cons_of_mem _ ?_)); assumption)) (fun _ _ _ h => nomatch h) .none .none
theorem adv_opn {size pc pos g0 : Int} {gs : List (Option (Int × Int))} {ls : List Cell} (h1 : 0 < g0) (h2 : g0 ≤ ls.length) : AdvSpec w size (.opn g0) ⟨pc, pos, gs, ls⟩ (some ⟨pc + 1, pos, gs, ls.set ((ls.length : Int) - g0).toNat (.at pos)⟩) none := by
  intro p loose mean mg mb dp un gd cn cs L a ccd cl outer A₀ base h₀ m s Q E news upd x dx lst z y k1 k2 k3 k4 k5 k6 sv lv its c R' tx tt B F X T hk hd hu N hx hx2 U hz hR hT hp0 hp1 hg1 hl1 hst hsp ret
  cases hst with
  | @mk _ g l _ _ t u _ _ gv lw hy hg hgs hl hls =>
  cases hsp with
  | @opn _ a1 b1 _ hzm =>
  have e1 := hgs.length
  have e2 := hls.length
  simp only at hg1 hl1 hp0 hp1
  obtain ⟨hT1, hT2, hT3, hT4, hT5⟩ := hT
  have hw : lw.length ≤ 1000 := by omega
  have hgw : gv.length ≤ 1000 := by omega
  have hy' := hR _ hy
  have hg' := hR _ hg
  have hl' := hR _ hl
  have hz' := hR _ hzm
  rw [← e2] at h2 ret
  have hi : (lw.length : Int) - g0 = (((lw.length : Int) - g0).toNat : Int) := by omega
  have ha : ((lw.length : Int) - g0).toNat < lw.length := by omega
  refine wpAny_call ?_
  k_dflt ktr_enter
  k_steps
  refine' ret _ _ _ its c [_, _] (by k_asm) ?hb ?ho (.some (.mk (List.mem_append_right _ (.head _)) (List.mem_append_left _ hg) (hgs.mono fun _ _ h => h.mono fun q hq => List.mem_append_left _ hq) (List.mem_append_right _ (.tail _ (.head _))) (AllIn.set (hls.mono fun _ _ h => h.mono fun q hq => List.mem_append_left _ hq) (by omega) .at))) .none
  case hb => exact News_sub (by assumption : News h₀ L _ (_ :: _)) (List.forall_mem_append.mpr ⟨fun q hq => by (have hq := upd_self U q hq); (repeat (refine' List.mem_cons_of_mem _ ?_)); assumption, List.forall_mem_cons.mpr ⟨by k_mem, List.forall_mem_cons.mpr ⟨by k_mem, List.forall_mem_nil _⟩⟩⟩)
  case ho => exact (ord_cons' (ktn_ltOf (by ktn_lt)) (ord_cons' (ktn_ltOf (by ktn_lt)) (fun _ _ _ h => nomatch h)))
theorem adv_cls {size pc pos g0 b0 : Int} {gs : List (Option (Int × Int))} {ls : List Cell} (h1 : 0 < g0) (h2 : g0 ≤ ls.length) (h3 : g0 ≤ gs.length) (hc0 : ls[((ls.length : Int) - g0).toNat]? = some (.at b0)) : AdvSpec w size (.cls g0) ⟨pc, pos, gs, ls⟩ (some ⟨pc + 1, pos, gs.set (g0 - 1).toNat (Option.some (b0, pos)), ls⟩) none := by
  intro p loose mean mg mb dp un gd cn cs L a ccd cl outer A₀ base h₀ m s Q E news upd x dx lst z y k1 k2 k3 k4 k5 k6 sv lv its c R' tx tt B F X T hk hd hu N hx hx2 U hz hR hT hp0 hp1 hg1 hl1 hst hsp ret
  cases hst with
  | @mk _ g l _ _ t u _ _ gv lw hy hg hgs hl hls =>
  cases hsp with
  | @cls _ a1 b1 _ hzm =>
  have e1 := hgs.length
  have e2 := hls.length
  simp only at hg1 hl1 hp0 hp1
  obtain ⟨hT1, hT2, hT3, hT4, hT5⟩ := hT
  have hw : lw.length ≤ 1000 := by omega
  have hgw : gv.length ≤ 1000 := by omega
  have hy' := hR _ hy
  have hg' := hR _ hg
  have hl' := hR _ hl
  have hz' := hR _ hzm
  obtain ⟨v, hv, hcell⟩ := hls.get hc0
  rw [← e2] at h2 hv
  rw [← e1] at h3
  cases hcell
  have hi : g0 - 1 = ((g0 - 1).toNat : Int) := by omega
  have ha : (g0 - 1).toNat < gv.length := by omega
  have hi0 : 0 ≤ (lw.length : Int) - g0 := by omega
  refine wpAny_call ?_
  k_dflt ktr_enter
  k_steps
  refine' ret _ _ _ its c [_, _, _] (by k_asm) ?hb ?ho (.some (.mk (List.mem_append_right _ (.head _)) (List.mem_append_right _ (.tail _ (.head _))) (AllIn.set (hgs.mono fun _ _ h => h.mono fun q hq => List.mem_append_left _ hq) (by omega) (.some (List.mem_append_right _ (.tail _ (.tail _ (.head _)))))) (List.mem_append_left _ hl) (hls.mono fun _ _ h => h.mono fun q hq => List.mem_append_left _ hq))) .none
  case hb => exact News_sub (by assumption : News h₀ L _ (_ :: _)) (List.forall_mem_append.mpr ⟨fun q hq => by (have hq := upd_self U q hq); (repeat (refine' List.mem_cons_of_mem _ ?_)); assumption, List.forall_mem_cons.mpr ⟨by k_mem, List.forall_mem_cons.mpr ⟨by k_mem, List.forall_mem_cons.mpr ⟨by k_mem, List.forall_mem_nil _⟩⟩⟩⟩)
  case ho => exact (ord_cons' (ktn_ltOf (by ktn_lt)) (ord_cons' (ktn_ltOf (by ktn_lt)) (ord_cons' (ktn_ltOf (by ktn_lt)) (fun _ _ _ h => nomatch h))))
theorem sub_cons {R l : List (Addr × Obj)} {a : Addr × Obj} (h : ∀ q ∈ R, q ∈ l) : ∀ q ∈ R, q ∈ a :: l := fun q hq => .tail _ (h q hq)
theorem RepSpec.use {w : World} {stp : Stp} {st : St} {nx kp : Option St} {p : Program} {loose : List Str} {mean : ExcName → Option Value} {mg mb : Str → Option Value} {dp un : Nat} {gd : Option (List Code)} {cn : Str} {cs : Scope} {L a : Addr} {ccd : Value} {cl : List (Str × Addr)} {outer : List Env} {A₀ : Around} {base h₀ : Heap} {m : Str → Option Value} {s : Shared} {Q E : Value → Shared → Prop} {news : List (Addr × Obj)} {upd : Obj → List (Addr × Obj)} {x dx lst z y : Addr} {k1 k2 k3 k4 k5 k6 : Tok} {sv tv lv : Value} {its : Array Value} {c : Nat} {R' : List (Addr × Obj)}
    (B : Below A₀ base outer h₀) (F : Fr h₀ L s.heap m) (X : (kk.heap_1 w.params).In h₀) (T : Top p loose mean mg mb h₀) (hk : cs.kind = .function) (hd : dp + 8 < recursionLimit) (hu : un + 64 < cLine) (N : News h₀ L s.heap news) (S : RepSpec w 401 8 stp st nx kp) (hx : (x, instObj 404 dx) ∈ news) (hx2 : (dx, sdict w k1 k2 k3 k4 k5 k6 sv tv lv (.ref lst)) ∈ news) (U : (∀ o', Upd lst (listOf its c) o' news (upd o'))) (hz : its.size < 1000) (hg1 : st.gs.length < 50) (hl1 : st.ls.length < 50) (hst : StIn R' (.ref y) st) (hsp : StpIn R' (.ref z) stp) (hR : (∀ q ∈ R', q ∈ news)) (ret : (∀ h' tk v its' c' tl, Fr h₀ L h' m → News h₀ L h' (upd (listOf its' c') ++ tl) → (∀ q ∈ news, ∀ p ∈ tl, q.1 < p.1) → OutIn (R' ++ tl) v nx → KeptIn (R' ++ tl) its its' kp → Q v { s with heap := h', toks := tk })) :
    wpAny (model PySem.Challenge.rw_sz0083_01.row.prog w) (ktrTop dp un gd cn cs L a ccd cl outer) (call (.ref 401) [.ref x, .ref z, .ref y]) Q E s :=
  S p loose mean mg mb dp un gd cn cs L a ccd cl outer A₀ base h₀ m s Q E news upd x dx lst z y k1 k2 k3 k4 k5 k6 sv tv lv its c R' B F X T hk hd hu N hx hx2 U hz hR hg1 hl1 hst hsp ret
theorem ord_one1 {lst : Addr} {l l' : Obj} {R al tl : List (Addr × Obj)} (hin : ∀ q ∈ news, q = (lst, l) ∨ q ∈ R) (h : ∀ q ∈ al, ∀ p ∈ tl, q.1 < p.1) (h2 : (lst, l') ∈ al) (h3 : ∀ q ∈ R, q ∈ al) : ∀ q ∈ news, ∀ p ∈ tl, q.1 < p.1 := fun q hq p hp => by
  rcases hin q hq with rfl | e
  · exact h _ h2 p hp
  · exact h q (h3 q e) p hp
theorem adv_rep {size : Int} {stp : Stp} {st : St} {nx kp : Option St} (h : rep stp st = some (nx, kp)) : AdvSpec w size stp st nx kp := by
  k_with "m call ref" => (((k_here; k_dflt (show wpAny _ _ (call (Value.ref 401) _) _ _ _); k_dflt (refine' RepSpec.use ?B ?F ?X ?T ?hk ?hd ?hu ?N ?pq1 ?mq2 ?mq3 ?uq4 ?pq5 ?pq6 ?pq7 ?pq8 ?pq9 ?Rq10 ?_; k_extra "w kpf_c"; (case N => k_asm); (case pq1 => assumption); (case mq2 => k_mem); (case mq3 => k_mem); (case uq4 => (intro o'; k_upd)); (case pq5 => assumption); (case pq6 => assumption); (case pq7 => assumption); (case pq8 => assumption); (case pq9 => assumption); (case Rq10 => k_extra "w R"); k_extra "w kcf_m"); intro h' tk' v' its' c' tl' F' N' o' O' K'; k_extra "w kbo_bools"); k_extra "w kwd_same0"))
  intro p loose mean mg mb dp un gd cn cs L a ccd cl outer A₀ base h₀ m s Q E news upd x dx lst z y k1 k2 k3 k4 k5 k6 sv lv its c R' tx tt B F X T hk hd hu N hx hx2 U hz hR hT hp0 hp1 hg1 hl1 hst hsp ret
  have S := rep_all (w := w) h
  have hst0 := hst
  have hsp0 := hsp
  obtain ⟨R, hR9, hin, N, back⟩ := Upd_use2 U N
  have hx := (hin _ hx).resolve_left (fun e => by cases e)
  have hx2 := (hin _ hx2).resolve_left (fun e => absurd (show Value.type "dict" = .type "list" from congrArg (fun q : Addr × Obj => q.2.cls) e) (by decide))
  have hR2 : ∀ q ∈ R', q ∈ (lst, listOf its c) :: R := fun q hq => by
    rcases hin q (hR q hq) with e | e
    · rw [e]; exact .head _
    · exact .tail _ e
  cases hst with
  | @mk _ g l _ _ t u _ _ gv lw hy hg hgs hl hls =>
  have hy' := tup_in1 hin (hR _ hy)
  have hstep : ∃ (cc : Int) (kc : Tok) (vs : List Value), (z, tup (.int cc kc :: vs)) ∈ R' ∧ 12 ≤ cc ∧ (Value.int cc kc :: vs).length ≤ 1000 := by
    cases hsp with
    | chr hzm => cases h
    | met hzm => cases h
    | opn hzm => cases h
    | cls hzm => cases h
    | loop hzm => exact ⟨_, _, _, hzm, by decide, Nat.le_of_ble_eq_true rfl⟩
    | tail hzm => exact ⟨_, _, _, hzm, by decide, Nat.le_of_ble_eq_true rfl⟩
    | head hzm ho => exact ⟨_, _, _, hzm, by decide, Nat.le_of_ble_eq_true rfl⟩
  obtain ⟨cc, kc, vs, hzm, hc0, hvl⟩ := hstep
  have hle : ∀ c : Int, c < 12 → ¬ cc ≤ c := fun c h h' => absurd (Int.le_trans hc0 h') (Int.not_le.mpr h)
  have heq : ∀ c : Int, c < 12 → ¬ ((cc == c) = true) := fun c h h' => hle c h (Int.le_of_eq (eq_of_beq h'))
  have hc1 := hle 2 (by decide)
  have hc2 := hle 5 (by decide)
  have hc3 := heq 6 (by decide)
  have hc4 := heq 7 (by decide)
  have hc5 := heq 8 (by decide)
  have hc6 := heq 9 (by decide)
  have hc7 := heq 10 (by decide)
  have hc8 := heq 11 (by decide)
  clear hle heq
  have hz' := tup_in1 hin (hR _ hzm)
  clear U
  refine wpAny_call ?_
  k_dflt ktr_enter
  k_steps
  rename (OutIn _ _ _) => O1
  rename (KeptIn _ _ _ _) => K1
  rename (∀ q : Addr × Obj, _ → ∀ p : Addr × Obj, _ → _) => o1
  exact ret _ _ _ _ _ _ (by k_asm) (back _ _ _ (News3 (by assumption : News h₀ L _ (_ :: _)) (by k_mem) (fun q hq => by k_ownIn) (fun q hq => by k_ownIn))) (ord_one1 hin o1 (by k_mem) (fun q hq => by k_ownIn)) O1 K1
/-- a turn of advance -/
noncomputable def adv (size : Int) : Stp → St → Option (Option St × Option St)
  | .chr, s => if s.pos < size then some (some ⟨s.pc + 1, s.pos + 1, s.gs, s.ls⟩, none) else if s.pos = size then some (none, none) else none
  | .opn g, s => if 0 < g ∧ g ≤ s.ls.length then some (some ⟨s.pc + 1, s.pos, s.gs, s.ls.set ((s.ls.length : Int) - g).toNat (.at s.pos)⟩, none) else none
  | .cls g, s => if 0 < g ∧ g ≤ s.ls.length ∧ g ≤ s.gs.length then
      match s.ls[((s.ls.length : Int) - g).toNat]? with
      | some (.at b) => some (some ⟨s.pc + 1, s.pos, s.gs.set (g - 1).toNat (some (b, s.pos)), s.ls⟩, none)
      | _ => none
    else none
  | stp, s => rep stp s
theorem adv_all {size : Int} {stp : Stp} {st : St} {nx kp : Option St} (h : adv size stp st = some (nx, kp)) : AdvSpec w size stp st nx kp := by
  obtain ⟨pc, pos, gs, ls⟩ := st
  cases stp with
  | chr =>
    replace h := ite_some h
    rcases h with ⟨h1, h⟩ | ⟨_, h⟩
    · cases h; exact adv_chr1 h1
    · replace h := ite_some h
      rcases h with ⟨h1, h⟩ | ⟨_, h⟩
      · cases h; exact adv_chr2 h1
      · cases h
  | opn g =>
    replace h := ite_some h
    rcases h with ⟨h1, h⟩ | ⟨_, h⟩
    · cases h; exact adv_opn h1.1 h1.2
    · cases h
  | cls g =>
    replace h := ite_some h
    rcases h with ⟨h1, h⟩ | ⟨_, h⟩
    · split at h
      · rename_i b0 hc0; cases h; exact adv_cls h1.1 h1.2.1 h1.2.2 hc0
      · cases h
    · cases h
  | loop k => exact adv_rep h
  | tail k least hd0 => exact adv_rep h
  | head k least most lz first behind out => exact adv_rep h
  | met => cases h
theorem AdvSpec.use {w : World} {size : Int} {stp : Stp} {st : St} {nx kp : Option St} {p : Program} {loose : List Str} {mean : ExcName → Option Value} {mg mb : Str → Option Value} {dp un : Nat} {gd : Option (List Code)} {cn : Str} {cs : Scope} {L a : Addr} {ccd : Value} {cl : List (Str × Addr)} {outer : List Env} {A₀ : Around} {base h₀ : Heap} {m : Str → Option Value} {s : Shared} {Q E : Value → Shared → Prop} {news : List (Addr × Obj)} {upd : Obj → List (Addr × Obj)} {x dx lst z y : Addr} {k1 k2 k3 k4 k5 k6 : Tok} {sv lv : Value} {its : Array Value} {c : Nat} {R' : List (Addr × Obj)} {tx : Str} {tt : Tok}
    (B : Below A₀ base outer h₀) (F : Fr h₀ L s.heap m) (X : (kk.heap_1 w.params).In h₀) (T : Top p loose mean mg mb h₀) (hk : cs.kind = .function) (hd : dp + 12 < recursionLimit) (hu : un + 96 < cLine) (N : News h₀ L s.heap news) (S : AdvSpec w size stp st nx kp) (hx : (x, instObj 404 dx) ∈ news) (hx2 : (dx, sdict w k1 k2 k3 k4 k5 k6 sv (.str tx tt) lv (.ref lst)) ∈ news) (U : (∀ o', Upd lst (listOf its c) o' news (upd o'))) (hz : its.size < 1000) (hT : TxOk tx size) (hp0 : 0 ≤ st.pos) (hp1 : st.pos ≤ size) (hg1 : st.gs.length < 50) (hl1 : st.ls.length < 50) (hst : StIn R' (.ref y) st) (hsp : StpIn R' (.ref z) stp) (hR : (∀ q ∈ R', q ∈ news)) (ret : (∀ h' tk v its' c' tl, Fr h₀ L h' m → News h₀ L h' (upd (listOf its' c') ++ tl) → (∀ q ∈ news, ∀ p ∈ tl, q.1 < p.1) → OutIn (R' ++ tl) v nx → KeptIn (R' ++ tl) its its' kp → Q v { s with heap := h', toks := tk })) :
    wpAny (model PySem.Challenge.rw_sz0083_01.row.prog w) (ktrTop dp un gd cn cs L a ccd cl outer) (call (.ref 366) [.ref x, .ref z, .ref y]) Q E s :=
  S p loose mean mg mb dp un gd cn cs L a ccd cl outer A₀ base h₀ m s Q E news upd x dx lst z y k1 k2 k3 k4 k5 k6 sv lv its c R' tx tt B F X T hk hd hu N hx hx2 U hz hR hT hp0 hp1 hg1 hl1 hst hsp ret
noncomputable def Stp.isMet : Stp → Bool
  | .met => true
  | _ => false
/-- the run: the steps, the text's letters, the turns at hand, the state, the states kept -/
noncomputable def runP (steps : List Stp) (size : Int) : Nat → St → List St → Option (Option (Int × List (Option (Int × Int))))
  | 0, _, _ => none
  | n + 1, s, wt => if 0 ≤ s.pc ∧ s.gs.length < 50 ∧ s.ls.length < 50 ∧ 0 ≤ s.pos ∧ s.pos ≤ size then
      match steps[s.pc.toNat]? with
      | none => none
      | some stp =>
        if stp.isMet = true then some (some (s.pos, s.gs)) else
        match adv size stp s with
        | none => none
        | some (some s', none) => runP steps size n s' wt
        | some (some s', some s'') => runP steps size n s' (s'' :: wt)
        | some (none, none) =>
          match wt with
          | [] => some none
          | s' :: wt' => runP steps size n s' wt'
        | some (none, some _) => none
    else none
noncomputable def Stop (P : Prop) : Prop := P
theorem whl_ind {prog : Program} {A : Around} {env : Env} {test : PySem.Expr} {body orelse : List Stmt} {Q : Flow → Shared → Prop} (I : Nat → Shared → Prop)
    (turn : ∀ n s, I n s → (∀ k s', k < n → I k s' → Stop (WhlRest prog w A E env test body orelse Q 9 s')) → WhlRest prog w A E env test body orelse Q 10 s) {n : Nat} {s : Shared} (h : I n s) : WhlRest prog w A E env test body orelse Q 9 s := by
  induction n using Nat.strongRecOn generalizing s with
  | _ n ih => exact turn n s h fun k s' hk hi => ih k hk hi
inductive WtIn (R : List (Addr × Obj)) : Array Value → List St → Prop where
  | nil : WtIn R #[] []
  | cons {its : Array Value} {y : Addr} {st : St} {wt : List St} : WtIn R its wt → StIn R (.ref y) st → WtIn R (its.push (.ref y)) (st :: wt)
theorem WtIn.mono {R R' : List (Addr × Obj)} {its : Array Value} {wt : List St} (h : WtIn R its wt) (hs : ∀ q ∈ R, q ∈ R') : WtIn R' its wt := by
  induction h with
  | nil => exact .nil
  | cons _ h ih => exact .cons ih (h.mono hs)
theorem WtIn.size {R : List (Addr × Obj)} {its : Array Value} {wt : List St} (h : WtIn R its wt) : its.size = wt.length := by
  induction h with
  | nil => rfl
  | cons _ _ ih => simp [ih]
theorem OutIn.none_eq {R : List (Addr × Obj)} {v : Value} (h : OutIn R v Option.none) : v = .none := by cases h; rfl
theorem OutIn.some_ref {R : List (Addr × Obj)} {v : Value} {st : St} (h : OutIn R v (Option.some st)) : ∃ y, v = .ref y ∧ StIn R (.ref y) st := by
  cases h with
  | some h => cases h; exact ⟨_, rfl, .mk (by assumption) (by assumption) (by assumption) (by assumption) (by assumption)⟩
theorem KeptIn.none_eq {R : List (Addr × Obj)} {its its' : Array Value} (h : KeptIn R its its' Option.none) : its' = its := by cases h; rfl
theorem KeptIn.some_ref {R : List (Addr × Obj)} {its its' : Array Value} {st : St} (h : KeptIn R its its' (Option.some st)) : ∃ y, its' = its.push (.ref y) ∧ StIn R (.ref y) st := by
  cases h with
  | some h => cases h; exact ⟨_, rfl, .mk (by assumption) (by assumption) (by assumption) (by assumption) (by assumption)⟩
theorem StpIn.tag {R : List (Addr × Obj)} {v : Value} {stp : Stp} (h : StpIn R v stp) (hm : stp ≠ .met) : ∃ y k t vs, v = .ref y ∧ (y, tup (.int k t :: vs)) ∈ R ∧ (Value.int k t :: vs).length ≤ 1000 ∧ k ≠ 15 := by
  cases h with
  | met => exact absurd rfl hm
  | chr h => exact ⟨_, _, _, _, rfl, h, by simp, by decide⟩
  | loop h => exact ⟨_, _, _, _, rfl, h, by simp, by decide⟩
  | head h _ => exact ⟨_, _, _, _, rfl, h, by simp, by decide⟩
  | tail h => exact ⟨_, _, _, _, rfl, h, by simp, by decide⟩
  | opn h => exact ⟨_, _, _, _, rfl, h, by simp, by decide⟩
  | cls h => exact ⟨_, _, _, _, rfl, h, by simp, by decide⟩
theorem StepsIn.get {R : List (Addr × Obj)} {vs : List Value} {ts : List Stp} (h : StepsIn R vs ts) {i : Nat} {t : Stp} (ht : ts[i]? = some t) : ∃ v, vs[i]? = some v ∧ StpIn R v t := by
  induction h generalizing i with
  | nil => simp at ht
  | cons h _ ih =>
    cases i with
    | zero => simp at ht; subst ht; exact ⟨_, by simp, h⟩
    | succ i => simp at ht; obtain ⟨v, h1, h2⟩ := ih ht; exact ⟨v, by simpa using h1, h2⟩
theorem Fr_eq {h : Heap} {m' : Str → Option Value} (F : Fr h₀ L h m) (e : ∀ z, m z = m' z) : Fr h₀ L h m' := (funext e) ▸ F
theorem start_m {m' : Str → Option Value} {x y : Str} {v : Value} (h : m' y = some v) : ∀ z, m' z = bindM (bindM m' x (m' x)) y (some v) z := fun z => by
  unfold bindM
  by_cases h1 : z = y
  · rw [if_pos h1, h1, h]
  · rw [if_neg h1]
    by_cases h2 : z = x
    · rw [if_pos h2, h2]
    · rw [if_neg h2]
inductive ResIn (R : List (Addr × Obj)) : Value → Option (Int × List (Option (Int × Int))) → Prop where
  | none : ResIn R .none none
  | some {y g : Addr} {pos : Int} {t : Tok} {gv : List Value} {gs : List (Option (Int × Int))} : (y, tup [.int pos t, .ref g]) ∈ R → (g, tup gv) ∈ R → AllIn (GrpIn R) gv gs → ResIn R (.ref y) (some (pos, gs))
noncomputable def RunInv (w : World) (k1 k2 k3 k4 k5 k6 tt : Tok) (dx lst sl : Addr) (tx : Str) (h₀ : Heap) (L : Addr) (m₀ : Str → Option Value) (s₀ : Shared) (steps : List Stp) (size : Int) (R0 : List (Addr × Obj)) (r : Option (Int × List (Option (Int × Int)))) (n : Nat) (s' : Shared) : Prop :=
  ∃ h1 tk1 ws v left t5 its c tl wt, s' = { s₀ with heap := h1, toks := tk1 } ∧ Fr h₀ L h1 (bindM (bindM m₀ (Str.ofString "step") ws) (Str.ofString "state") (some v)) ∧
    News h₀ L h1 ((dx, sdict w k1 k2 k3 k4 k5 k6 (.ref sl) (.str tx tt) (.int left t5) (.ref lst)) :: (lst, listOf its c) :: (R0 ++ tl)) ∧ (∀ q ∈ tl, q.1 ≠ dx) ∧ (∀ q ∈ tl, q.1 ≠ lst) ∧ wt.length + n ≤ 900 ∧ (n : Int) ≤ left ∧ WtIn (R0 ++ tl) its wt ∧
    ((v = .none ∧ r = none) ∨ ∃ y st, v = .ref y ∧ StIn (R0 ++ tl) (.ref y) st ∧ runP steps size n st wt = some r)
theorem lst_at {prog : Program} {A : Around} {value slice : PySem.Expr} {t : Addr} {its : Array Value} {c : Nat} {k : Int} {u : Tok} {x : Value} (N : News h₀ L s.heap news) (hm : (t, listOf its c) ∈ news) (h0 : 0 ≤ k) (hf : k < 1000) (hx : its.toList[k.toNat]? = some x) (h : Q x s)
    (hs : subscripted slice false (.ref t) (.int k u) = operate [.ref t, .int k u] (getItem (.ref t) (.int k u)) := by with_unfolding_all rfl) :
    wpAny (model prog w) A (subscriptTail value slice (.ref t) (.int k u)) Q E s := by
  have hl : s.heap.IsList t its := News.isList N hm
  exact tail_any hl.typeIs slot_list_getitem.lookup (wpAny_getItem_list hl h0 (by omega) (by simpa using hx) h) hs
theorem lst_upto {prog : Program} {A : Around} {value slice : PySem.Expr} {t : Addr} {its : Array Value} {c : Nat} {i : Int} {u : Tok} (F : Fr h₀ L s.heap m) (N : News h₀ L s.heap news) (hm : (t, listOf its c) ∈ news) (hz : its.size < 1001)
    (h : ∀ D o h', Fr h₀ L h' m → News h₀ L h' ((D, o) :: news) → (∀ p ∈ news, p.1 < D) → Q (.ref D) { s with heap := h' })
    (hs : subscripted slice false (.ref t) (.ref s.heap.objs.size) = operate [.ref s.heap.objs.size, .ref t] (getItem (.ref t) (.ref s.heap.objs.size)))
    (hg : ∀ r, letTemporaryGo value (.ref t) r = pure ()) :
    wpAny (model prog w) A (subscriptTail value slice (.ref t) (.ref s.heap.objs.size)) Q E { s with heap := s.heap.push { cls := .type "slice", data := .fields #[.none, .int i u, .none] } } :=
  slice_list F N (News.isList N hm) .none (.int i u) (fun h' F' N' => h _ _ h' F' N' fun p hp => Nat.lt_succ_of_lt (Heap.lt_size (N p hp).1)) hs hg (by size_fits)
theorem pop_push {prog : Program} {A : Around} {D : Addr} {its : Array Value} {n : Nat} {v : Value} {news' : List (Addr × Obj)} (F : Fr h₀ L s.heap m) (N : News h₀ L s.heap news) (U : Upd D (listOf (its.push v) n) (listOf its (n + 1)) news news')
    (hz : its.size < 1000) (h : ∀ h', Fr h₀ L h' m → News h₀ L h' news' → Q v { s with heap := h' }) : wpAny (model prog w) A (call (.builtin "list.pop") [.ref D]) Q E s := by
  have e : kl_last (its.push v).toList = some (its.toList, v) := by
    rw [Array.toList_push]
    generalize its.toList = l
    induction l with
    | nil => rfl
    | cons a l ih =>
      cases l with
      | nil => rfl
      | cons b l => simp only [List.cons_append] at ih ⊢; unfold kl_last; rw [ih]
  refine kl_pop F N e (by simpa using U) (by rw [Array.toList_push, List.length_append]; simp only [List.length_cons, List.length_nil, Array.length_toList]; size_fits) h
section
theorem RunInv.start {h1 : Heap} {tk1 : Nat} {m' : Str → Option Value} {s₀ : Shared} {D dx lst sl g l : Addr} {k1 k2 k3 k4 k5 k6 t1 t2 t5 tt : Tok} {tx : Str} {size pc pos left : Int} {c n : Nat} {gv lv : List Value} {gs : List (Option (Int × Int))} {ls : List Cell} {steps : List Stp} {R0 : List (Addr × Obj)} {r : Option (Int × List (Option (Int × Int)))}
    (F : Fr h₀ L h1 m') (e : m' (Str.ofString "state") = some (.ref D)) (N : News h₀ L h1 ((D, tup [.int pc t1, .int pos t2, .ref g, .ref l]) :: (dx, sdict w k1 k2 k3 k4 k5 k6 (.ref sl) (.str tx tt) (.int left t5) (.ref lst)) :: (lst, listOf #[] c) :: R0)) (hdl : @Ne Nat lst dx) (ha : @LT.lt Nat _ dx D) (hb : @LT.lt Nat _ lst D)
    (hg : (g, tup gv) ∈ R0) (hgs : AllIn (GrpIn R0) gv gs) (hl : (l, tup lv) ∈ R0) (hls : AllIn (CellIn R0) lv ls)
    (hn : n ≤ 900) (hleft : (n : Int) ≤ left) (hr : runP steps size n ⟨pc, pos, gs, ls⟩ [] = some r) :
    RunInv w k1 k2 k3 k4 k5 k6 tt dx lst sl tx h₀ L m' s₀ steps size R0 r n { s₀ with heap := h1, toks := tk1 } := by
  k_with "m subscriptTail" => ((k_here; (with_reducible refine' lst_at ?Nq1 ?mq2 ?yq3 ?wq4 ?pq5 ?_ ?gq7); k_dflt ((case Nq1 => k_asm); (case mq2 => k_mem); (case yq3 => first | assumption | decide | kwd_inv); (case wq4 => kwd_inv); (case pq5 => assumption); (case gq7 => (intros; with_unfolding_all rfl))); k_whole))
  k_with "m subscriptTail Attribute Slice ref ref" => ((k_here; k_dflt (refine' lst_upto (s := ⟨_, _, _, _, _⟩) ?F ?N ?hm ?hz ?_ ?hs ?hg; (case F => k_asm); (case N => k_asm); (case hm => k_mem); (case hz => assumption); (case hs => with_unfolding_all rfl); (case hg => intro _; with_unfolding_all rfl)); intro D' o' h' F' N' l1; (try k_lt l1); (try k_sweep)))
  k_with "m call builtin:list.pop" => ((k_here; (with_reducible refine' pop_push ?Fq1 ?Nq2 ?kq3 ?pq4 ?_); k_dflt ((case Fq1 => k_asm); (case Nq2 => k_asm); (case kq3 => k_upd); (case pq4 => assumption)); intro h' F' N'; k_extra "w kbo_bools"))
  k_with "m call ref" => ((fail_if_success (have z9 := @off18)); ((k_here; k_dflt (show wpAny _ _ (call (Value.ref 366) _) _ _ _); k_dflt (refine' AdvSpec.use ?B ?F ?X ?T ?hk ?hd ?hu ?N ?pq1 ?mq2 ?mq3 ?uq4 ?pq5 ?pq6 ?pq7 ?pq8 ?pq9 ?pq10 ?pq11 ?pq12 ?Rq13 ?_; k_extra "w kpf_c"; (case N => k_asm); (case pq1 => assumption); (case mq2 => k_mem); (case mq3 => k_mem); (case uq4 => (intro o'; k_upd)); (case pq5 => assumption); (case pq6 => assumption); (case pq7 => assumption); (case pq8 => assumption); (case pq9 => assumption); (case pq10 => assumption); (case pq11 => assumption); (case pq12 => assumption); (case Rq13 => k_extra "w R"); k_extra "w kcf_m"); intro h' tk' v' its' c' tl' F' N' o' O' K'; k_extra "w kbo_bools"); (first | (have e' := OutIn.none_eq O'; clear O'; subst e') | (obtain ⟨y', e', O'⟩ := OutIn.some_ref O'; subst e')); (first | (have e' := KeptIn.none_eq K'; clear K'; subst e') | (obtain ⟨z', e', K'⟩ := KeptIn.some_ref K'; subst e')); k_extra "w kwd_same0"))
  k_with "m exec While Compare cons nil" => ((fail_if_success (have z9 := @off18)); (k_here; k_dflt (refine whl_start 9 ?_)))
  k_with "m WhlRest" => ((fail_if_success (have z9 := @off18)); (k_here; k_dflt (show Stop _)))
  refine ⟨_, _, _, _, left, t5, #[], c, [(D, tup [.int pc t1, .int pos t2, .ref g, .ref l])], [], rfl, Fr_eq F (start_m e), News_sub N ?_, ?_, ?_, ?_, hleft, .nil, .inr ⟨_, _, rfl, ?_, hr⟩⟩
  · intro q hq
    rcases List.mem_cons.mp hq with rfl | hq
    · exact .tail _ (.head _)
    rcases List.mem_cons.mp hq with rfl | hq
    · exact .tail _ (.tail _ (.head _))
    rcases List.mem_append.mp hq with hq | hq
    · exact .tail _ (.tail _ (.tail _ hq))
    · rw [List.mem_singleton.mp hq]; exact .head _
  · intro q hq; rw [List.mem_singleton.mp hq]; exact Nat.ne_of_gt ha
  · intro q hq; rw [List.mem_singleton.mp hq]; exact Nat.ne_of_gt hb
  · simpa using hn
  · exact .mk (List.mem_append_right _ (.head _)) (List.mem_append_left _ hg) (hgs.mono fun _ _ h => h.mono fun q hq => List.mem_append_left _ hq) (List.mem_append_left _ hl) (hls.mono fun _ _ h => h.mono fun q hq => List.mem_append_left _ hq)
theorem lft {n : Nat} {left : Int} (h : ((n + 1 : Nat) : Int) ≤ left) : (n : Int) ≤ left - 1 := by omega
theorem lfw {a n : Nat} (h : a + (n + 1) ≤ 900) : a + n ≤ 900 := Nat.le_of_succ_le h
theorem lfw2 {a n : Nat} (h : a + (n + 1) ≤ 900) : a + 1 + n ≤ 900 := by omega
theorem lfw3 {a n : Nat} (h : a + 1 + (n + 1) ≤ 900) : a + n ≤ 900 := by omega
theorem RunInv.next {h1 : Heap} {tk1 : Nat} {m₀ m' : Str → Option Value} {s₀ : Shared} {dx lst sl y : Addr} {k1 k2 k3 k4 k5 k6 t5 tt : Tok} {tx : Str} {size left : Int} {its : Array Value} {c n : Nat} {steps : List Stp} {R0 RR tl tl' : List (Addr × Obj)} {st : St} {wt : List St} {ws : Option Value} {r : Option (Int × List (Option (Int × Int)))}
    (F : Fr h₀ L h1 m') (e : ∀ z, m' z = bindM (bindM m₀ (Str.ofString "step") ws) (Str.ofString "state") (some (.ref y)) z) (N : News h₀ L h1 ((dx, sdict w k1 k2 k3 k4 k5 k6 (.ref sl) (.str tx tt) (.int left t5) (.ref lst)) :: (lst, listOf its c) :: (RR ++ tl'))) (hRR : R0 ++ tl = RR)
    (a1 : ∀ q ∈ tl, q.1 ≠ dx) (a2 : ∀ q ∈ tl, q.1 ≠ lst) (b1 : ∀ q ∈ tl', q.1 ≠ dx) (b2 : ∀ q ∈ tl', q.1 ≠ lst) (hw : wt.length + n ≤ 900) (hl : (n : Int) ≤ left) (hwt : WtIn (RR ++ tl') its wt) (hst : StIn (RR ++ tl') (.ref y) st) (hrun : runP steps size n st wt = some r) :
    RunInv w k1 k2 k3 k4 k5 k6 tt dx lst sl tx h₀ L m₀ s₀ steps size R0 r n { s₀ with heap := h1, toks := tk1 } := by
  subst hRR
  rw [List.append_assoc] at N hwt hst
  exact ⟨_, _, ws, _, left, t5, its, c, tl ++ tl', wt, rfl, Fr_eq F e, N, fun q hq => (List.mem_append.mp hq).elim (a1 q) (b1 q), fun q hq => (List.mem_append.mp hq).elim (a2 q) (b2 q), hw, hl, hwt, .inr ⟨_, _, rfl, hst, hrun⟩⟩
theorem RunInv.stop {h1 : Heap} {tk1 : Nat} {m₀ m' : Str → Option Value} {s₀ : Shared} {dx lst sl : Addr} {k1 k2 k3 k4 k5 k6 t5 tt : Tok} {tx : Str} {size left : Int} {its : Array Value} {c n : Nat} {steps : List Stp} {R0 RR tl tl' : List (Addr × Obj)} {wt : List St} {ws : Option Value}
    (F : Fr h₀ L h1 m') (e : ∀ z, m' z = bindM (bindM m₀ (Str.ofString "step") ws) (Str.ofString "state") (some .none) z) (N : News h₀ L h1 ((dx, sdict w k1 k2 k3 k4 k5 k6 (.ref sl) (.str tx tt) (.int left t5) (.ref lst)) :: (lst, listOf its c) :: (RR ++ tl'))) (hRR : R0 ++ tl = RR)
    (a1 : ∀ q ∈ tl, q.1 ≠ dx) (a2 : ∀ q ∈ tl, q.1 ≠ lst) (b1 : ∀ q ∈ tl', q.1 ≠ dx) (b2 : ∀ q ∈ tl', q.1 ≠ lst) (hw : wt.length + n ≤ 900) (hl : (n : Int) ≤ left) (hwt : WtIn (RR ++ tl') its wt) :
    RunInv w k1 k2 k3 k4 k5 k6 tt dx lst sl tx h₀ L m₀ s₀ steps size R0 Option.none n { s₀ with heap := h1, toks := tk1 } := by
  subst hRR
  rw [List.append_assoc] at N hwt
  exact ⟨_, _, ws, _, left, t5, its, c, tl ++ tl', wt, rfl, Fr_eq F e, N, fun q hq => (List.mem_append.mp hq).elim (a1 q) (b1 q), fun q hq => (List.mem_append.mp hq).elim (a2 q) (b2 q), hw, hl, hwt, .inl ⟨rfl, rfl⟩⟩
theorem kw10 : True := by
  k_with "w ktd_rel" => ((fail_if_success (have z9 := @off18)); (intro z; have h3 : ¬ (Str.ofString "step" = Str.ofString "state") := (by decide); simp only [bindM]; by_cases h1 : z = Str.ofString "state" <;> by_cases h2 : z = Str.ofString "step" <;> simp [h1, h2, h3]))
  trivial
theorem res_app {R0 tl RR l : List (Addr × Obj)} {v : Value} {r : Option (Int × List (Option (Int × Int)))} (e : R0 ++ tl = RR) (h : ResIn (RR ++ l) v r) : ResIn (R0 ++ (tl ++ l)) v r := by rwa [← List.append_assoc, e]
theorem res_news {h : Heap} {R0 tl RR l : List (Addr × Obj)} (e : R0 ++ tl = RR) (N : News h₀ L h (RR ++ l)) : News h₀ L h (R0 ++ (tl ++ l)) := by rwa [← List.append_assoc, e]
theorem RunInv.tok {h1 : Heap} {tk1 : Nat} {m' : Str → Option Value} {s₀ : Shared} {dx lst sl : Addr} {k1 k2 k3 k4 k5 k6 tt : Tok} {tx : Str} {size : Int} {n : Nat} {steps : List Stp} {R0 : List (Addr × Obj)} {r : Option (Int × List (Option (Int × Int)))}
    (I : RunInv w k1 k2 k3 k4 k5 k6 tt dx lst sl tx h₀ L m' s₀ steps size R0 r n { s₀ with heap := h1, toks := tk1 }) (tk : Nat) : RunInv w k1 k2 k3 k4 k5 k6 tt dx lst sl tx h₀ L m' s₀ steps size R0 r n { s₀ with heap := h1, toks := tk } := by
  obtain ⟨h1', _, ws, v, left, t5, its, c, tl, wt, e, I⟩ := I
  injection e with e
  subst e
  exact ⟨_, _, ws, v, left, t5, its, c, tl, wt, rfl, I⟩
theorem run_c {x dx lst sl g l : Addr} {k1 k2 k3 k4 k5 k6 t1 t2 t5 tt : Tok} {tx : Str} {size pc pos left : Int} {sits : Array Value} {c sc n : Nat} {gv lv : List Value} {gs : List (Option (Int × Int))} {ls : List Cell} {steps : List Stp} {R0 : List (Addr × Obj)} {r : Option (Int × List (Option (Int × Int)))}
    (B : Below A₀ base outer h₀) (F : Fr h₀ L s.heap m) (X : (kk.heap_1 w.params).In h₀) (T : Top p loose mean mg mb h₀) (hk : cs.kind = .function) (hd : dp + 16 < recursionLimit) (hu : un + 128 < cLine)
    (N : News h₀ L s.heap ((dx, sdict w k1 k2 k3 k4 k5 k6 (.ref sl) (.str tx tt) (.int left t5) (.ref lst)) :: (lst, listOf #[] c) :: R0)) (hx : (x, instObj 404 dx) ∈ R0) (hdl : @Ne Nat lst dx) (hR1 : ∀ q ∈ R0, q.1 ≠ dx) (hR2 : ∀ q ∈ R0, q.1 ≠ lst)
    (hsl : (sl, listOf sits sc) ∈ R0) (hsz : sits.size < 1000) (hst : StepsIn R0 sits.toList steps) (hT : TxOk tx size) (hg : (g, tup gv) ∈ R0) (hgs : AllIn (GrpIn R0) gv gs) (hl : (l, tup lv) ∈ R0) (hls : AllIn (CellIn R0) lv ls)
    (hn : n ≤ 900) (hleft : (n : Int) ≤ left) (hr : runP steps size n ⟨pc, pos, gs, ls⟩ [] = some r)
    (ret : ∀ h' tk v tl, Fr h₀ L h' m → News h₀ L h' (R0 ++ tl) → ResIn (R0 ++ tl) v r → Q v { s with heap := h', toks := tk }) :
    wpAny (model PySem.Challenge.rw_sz0083_01.row.prog w) (ktrTop dp un gd cn cs L a ccd cl outer) (call (.ref 352) [.ref x, .int pc t1, .int pos t2, .ref g, .ref l]) Q E s := by
  have hl0 : (#[] : Array Value).size < 1001 := by decide
  refine wpAny_call ?_
  k_dflt ktr_enter
  k_steps
  show WhlRest _ _ _ _ _ _ _ _ _ 9 _
  rename Fr _ _ _ _ => F9
  rename News _ _ _ _ => N9
  rename (_ < _ ∧ _ < _ ∧ AllLt _ R0) => l9
  have I0 := RunInv.start (s₀ := s) (tk1 := 0) F9 rfl N9 hdl l9.1 l9.2.1 hg hgs hl hls hn hleft hr
  refine whl_ind (RunInv w k1 k2 k3 k4 k5 k6 tt dx lst sl tx _ _ _ s steps size R0 r) ?_ (RunInv.tok I0 _)
  clear I0 F9 N9
  intro n s9 I ih
  obtain ⟨h1, tk1, ws, v, left, t5, its, c, tl, wt, rfl, F9, N9, htl1, htl2, hwn, hleft, hwt, hcase⟩ := I
  clear hn hr hl0
  have hw1 := hwt.size
  rcases hcase with ⟨rfl, rfl⟩ | ⟨y, st, rfl, hyst, hrun⟩
  · refine whl_turn (by first | passes_own | with_unfolding_all passes_own) ?_
    k_steps
    exact ret _ _ _ tl (by k_asm) (News_sub (by assumption : News h₀ L _ (_ :: _)) (fun q hq => .tail _ (.tail _ hq))) .none
  obtain _ | n := n
  · cases hrun
  simp only [runP] at hrun
  split at hrun
  case isFalse => cases hrun
  rename_i hguard
  obtain ⟨hp0, hg1, hl1, hq0, hq1⟩ := hguard
  split at hrun
  · cases hrun
  rename_i stp hstp
  obtain ⟨zv, hzv, hzs⟩ := (hst.mono (fun q hq => List.mem_append_left tl hq)).get hstp
  have hsl9 : (sl, listOf sits sc) ∈ R0 ++ tl := List.mem_append_left tl hsl
  have hx9 : (x, instObj 404 dx) ∈ R0 ++ tl := List.mem_append_left tl hx
  have hRd : ∀ q ∈ R0 ++ tl, q.1 ≠ dx := fun q hq => (List.mem_append.mp hq).elim (hR1 q) (htl1 q)
  have hRl : ∀ q ∈ R0 ++ tl, q.1 ≠ lst := fun q hq => (List.mem_append.mp hq).elim (hR2 q) (htl2 q)
  have hid : ∀ q ∈ R0 ++ tl, q ∈ R0 ++ tl := fun q hq => hq
  have hpcz : st.pc < 1000 := by have := get_lt hzv; rw [Array.length_toList] at this; omega
  have hits : its.size < 1000 := by omega
  have hits1 : its.size < 1001 := by omega
  have hlt0 : ¬ (left - 1 < 0) := by omega
  have hyst0 := hyst
  cases hyst with
  | @mk _ g9 l9 pc9 pos9 ta tb gs9 ls9 gv9 lv9 hy9 hg9 hgs9 hl9 hls9 =>
  generalize hRR : R0 ++ tl = RR at *
  by_cases hmet : stp.isMet = true
  · rw [if_pos hmet] at hrun
    cases hrun
    cases hzs <;> first | (cases hmet; done) | skip
    rename_i hzm
    refine whl_turn (by first | passes_own | with_unfolding_all passes_own) ?_
    k_steps
    refine' ret _ _ _ (tl ++ [_]) (by k_asm) (res_news hRR ?hb) (res_app hRR (.some (List.mem_append_right _ (.head _)) (List.mem_append_left _ hg9) (hgs9.mono fun _ _ h => h.mono fun q hq => List.mem_append_left _ hq)))
    case hb => exact News_sub (by assumption : News h₀ L _ (_ :: _)) (List.forall_mem_append.mpr ⟨fun q hq => by (repeat (refine' List.mem_cons_of_mem _ ?_)); assumption, List.forall_mem_cons.mpr ⟨by k_mem, List.forall_mem_nil _⟩⟩)
  rw [if_neg hmet] at hrun
  obtain ⟨z, kz, tz, vz, rfl, hzm, hzl, hk15⟩ := hzs.tag (fun e => hmet (by rw [e]; rfl))
  have hz0 : (Value.int kz tz :: vz)[Int.toNat 0]? = some (.int kz tz) := rfl
  have hA : ¬ (kz = 15) := hk15
  have hB : ¬ (decide (kz = 15) = true) := by simpa using hk15
  have hC : ¬ ((kz == 15) = true) := by simpa using hk15
  have h00 : (0 : Int) ≤ 0 := Int.le_refl _
  refine whl_turn (by first | passes_own | with_unfolding_all passes_own) ?_
  k_steps
  split at hrun
  · cases hrun
  · rename_i s' hadv
    have S := adv_all (w := w) hadv
    refine Halt.on ?_
    k_steps
    rename StIn _ _ s' => S1
    exact ih n _ (Nat.lt_succ_self n) (RunInv.next (ws := some (.ref z)) (by k_asm) (by k_extra "w ktd_rel") (by assumption : News _ _ _ (_ :: _)) hRR htl1 htl2 (by k_all) (by k_all) (lfw hwn) (lft hleft) (hwt.mono fun q hq => List.mem_append_left _ hq) S1 hrun)
  · rename_i s' s'' hadv
    have S := adv_all (w := w) hadv
    refine Halt.on ?_
    k_steps
    rename StIn _ _ s' => S1
    rename StIn _ _ s'' => S2
    exact ih n _ (Nat.lt_succ_self n) (RunInv.next (ws := some (.ref z)) (by k_asm) (by k_extra "w ktd_rel") (by assumption : News _ _ _ (_ :: _)) hRR htl1 htl2 (by k_all) (by k_all) (show List.length (s'' :: wt) + n ≤ 900 from lfw2 hwn) (lft hleft) (.cons (hwt.mono fun q hq => List.mem_append_left _ hq) S2) S1 hrun)
  · rename_i hadv
    have S := adv_all (w := w) hadv
    cases hwt with
    | nil =>
      cases hrun
      refine Halt.on ?_
      k_steps
      exact ih n _ (Nat.lt_succ_self n) (RunInv.stop (ws := some (.ref z)) (by k_asm) (by k_extra "w ktd_rel") (by assumption : News _ _ _ (_ :: _)) hRR htl1 htl2 (by k_all) (by k_all) (lfw hwn) (lft hleft) .nil)
    | @cons its2 y2 s2 wt2 hwt2 S2 =>
      have hgt : ((its2.push (Value.ref y2)).size : Int) > ((#[] : Array Value).size : Int) := by simp
      have hit2 : its2.size < 1000 := by rw [Array.size_push] at hits; omega
      refine Halt.on ?_
      k_steps
      exact ih n _ (Nat.lt_succ_self n) (RunInv.next (ws := some (.ref z)) (by k_asm) (by k_extra "w ktd_rel") (by assumption : News _ _ _ (_ :: _)) hRR htl1 htl2 (by k_all) (by k_all) (lfw3 hwn) (lft hleft) (hwt2.mono fun q hq => List.mem_append_left _ hq) (S2.mono fun q hq => List.mem_append_left _ hq) hrun)
  · cases hrun
end
theorem off18 : True := trivial
noncomputable abbrev ldict (w : World) (k1 k2 k3 k4 t1 t2 t3 t4 : Tok) : Obj := dictOf [ent w (Str.ofString "depth") k1 (.int 40 t1), ent w (Str.ofString "frames") k2 (.int 200 t2), ent w (Str.ofString "steps") k3 (.int 1000000000 t3), ent w (Str.ofString "text") k4 (.int 1000000 t4)] 4
inductive MatchIn (R : List (Addr × Obj)) : Value → Option (Int × List (Option (Int × Int))) → Prop where
  | none : MatchIn R .none none
  | some {y g : Addr} {c : Nat} {pos : Int} {t : Tok} {gv : List Value} {gs : List (Option (Int × Int))} : (y, tup [.int pos t, .ref g]) ∈ R → (g, listOf gv.toArray c) ∈ R → AllIn (GrpIn R) gv gs → MatchIn R (.ref y) (some (pos, gs))
theorem AllIn.rep {α : Type} {P : Value → α → Prop} {v : Value} {a : α} (h : P v a) (n : Nat) : AllIn P (List.replicate n v) (List.replicate n a) := by
  k_with "m binaryOp Mult ref int" => ((k_here; (with_reducible refine' tup_mul ?Fq1 ?Nq2 ?mq3 ?aq4 ?wq5 ?_); k_dflt ((case Fq1 => k_asm); (case Nq2 => k_asm); (case mq3 => k_mem); (case aq4 => first | assumption | rfl); (case wq5 => kwd_inv)); intro D' h' F' N' q1'; k_extra "w kbo_bools"))
  induction n with
  | zero => exact .nil
  | succ n ih => exact .cons h ih
theorem AllIn.app {α : Type} {P : Value → α → Prop} {vs vs' : List Value} {ts ts' : List α} (h : AllIn P vs ts) (h' : AllIn P vs' ts') : AllIn P (vs ++ vs') (ts ++ ts') := by
  induction h with
  | nil => exact h'
  | cons h _ ih => exact .cons h ih
theorem News_ne {h : Heap} {l : List (Addr × Obj)} {a b : Addr} {o o' : Obj} (N : News h₀ L h l) (ha : (a, o) ∈ l) (hb : (b, o') ∈ l) (hc : o.cls ≠ o'.cls) : a ≠ b := fun e => by
  have h1 := (N _ ha).1
  have h2 := (N _ hb).1
  simp only [e] at h1
  rw [h2] at h1
  exact hc (congrArg Obj.cls (Option.some.inj h1)).symm
theorem run_c2 {x dx lst sl g lp pr : Addr} {k1 k2 k3 k4 k5 k6 t1 t2 t5 tt u1 u2 u3 : Tok} {tx : Str} {size left : Int} {sits : Array Value} {c sc n kn cnt : Nat} {steps : List Stp} {l : List (Addr × Obj)} {r : Option (Int × List (Option (Int × Int)))}
    (B : Below A₀ base outer h₀) (F : Fr h₀ L s.heap m) (X : (kk.heap_1 w.params).In h₀) (T : Top p loose mean mg mb h₀) (hk : cs.kind = .function) (hd : dp + 16 < recursionLimit) (hu : un + 128 < cLine) (N : News h₀ L s.heap l) (hr : runP steps size n ⟨0, 0, List.replicate cnt none, List.replicate kn (.pair 0 0) ++ List.replicate (cnt + 1) (.at 0)⟩ [] = some r) (hT : TxOk tx size) (hx : (x, instObj 404 dx) ∈ l) (hdx : (dx, sdict w k1 k2 k3 k4 k5 k6 (.ref sl) (.str tx tt) (.int left t5) (.ref lst)) ∈ l) (hlst : (lst, listOf #[] c) ∈ l) (hg : (g, tup (List.replicate cnt .none)) ∈ l) (hl : (lp, tup (List.replicate kn (.ref pr) ++ List.replicate (cnt + 1) (.int 0 u3))) ∈ l) (hp : (pr, tup [.int 0 u1, .int 0 u2]) ∈ l) (hsl : (sl, listOf sits sc) ∈ news) (hsz : sits.size < 1000) (hst : StepsIn news sits.toList steps) (hs : ∀ q ∈ news, q ∈ l) (ha : ∀ q ∈ news, q.1 < dx) (hb : ∀ q ∈ news, q.1 < lst) (hn : n ≤ 900) (hleft : (n : Int) ≤ left) (ret : ∀ h' tk v tl, Fr h₀ L h' m → News h₀ L h' (news ++ tl) → ResIn (news ++ tl) v r → Q v { s with heap := h', toks := tk }) :
    wpAny (model PySem.Challenge.rw_sz0083_01.row.prog w) (ktrTop dp un gd cn cs L a ccd cl outer) (call (.ref 352) [.ref x, .int 0 t1, .int 0 t2, .ref g, .ref lp]) Q E s := by
  have e1 : ∀ {b : Addr} {vs : List Value}, (b, tup vs) ∈ l → b ≠ dx := fun h => News_ne N h hdx (show Value.type "tuple" ≠ .type "dict" by decide)
  have e2 : ∀ {b : Addr} {vs : List Value}, (b, tup vs) ∈ l → b ≠ lst := fun h => News_ne N h hlst (show Value.type "tuple" ≠ .type "list" by decide)
  refine run_c (R0 := news ++ [(x, instObj 404 dx), (g, tup (List.replicate cnt .none)), (pr, tup [.int 0 u1, .int 0 u2]), (lp, tup (List.replicate kn (.ref pr) ++ List.replicate (cnt + 1) (.int 0 u3)))]) (n := n) (size := size) (steps := steps) (r := r) (k1 := k1) (k2 := k2) (k3 := k3) (k4 := k4) (k5 := k5) (k6 := k6) (t5 := t5) (tt := tt) (c := c) (sc := sc) (left := left) B F X T hk hd hu ?N (List.mem_append_right _ (.head _)) (News_ne N hlst hdx (show Value.type "list" ≠ .type "dict" by decide)) ?hR1 ?hR2 (List.mem_append_left _ hsl) hsz (hst.mono fun q hq => List.mem_append_left _ hq) hT
    (List.mem_append_right _ (.tail _ (.head _))) (AllIn.rep .none cnt) (List.mem_append_right _ (.tail _ (.tail _ (.tail _ (.head _))))) (AllIn.app (AllIn.rep (.pair (List.mem_append_right _ (.tail _ (.tail _ (.head _))))) kn) (AllIn.rep .at (cnt + 1))) hn hleft hr ?ret
  case N => exact News_sub N (List.forall_mem_cons.mpr ⟨hdx, List.forall_mem_cons.mpr ⟨hlst, List.forall_mem_append.mpr ⟨hs, List.forall_mem_cons.mpr ⟨hx, List.forall_mem_cons.mpr ⟨hg, List.forall_mem_cons.mpr ⟨hp, List.forall_mem_cons.mpr ⟨hl, List.forall_mem_nil _⟩⟩⟩⟩⟩⟩⟩)
  case hR1 => exact List.forall_mem_append.mpr ⟨fun q hq => Nat.ne_of_lt (ha q hq), List.forall_mem_cons.mpr ⟨News_ne N hx hdx (by simp [instObj]), List.forall_mem_cons.mpr ⟨e1 hg, List.forall_mem_cons.mpr ⟨e1 hp, List.forall_mem_cons.mpr ⟨e1 hl, List.forall_mem_nil _⟩⟩⟩⟩⟩
  case hR2 => exact List.forall_mem_append.mpr ⟨fun q hq => Nat.ne_of_lt (hb q hq), List.forall_mem_cons.mpr ⟨News_ne N hx hlst (by simp [instObj]), List.forall_mem_cons.mpr ⟨e2 hg, List.forall_mem_cons.mpr ⟨e2 hp, List.forall_mem_cons.mpr ⟨e2 hl, List.forall_mem_nil _⟩⟩⟩⟩⟩
  case ret =>
    intro h' tk v tl F' N' R'
    rw [List.append_assoc] at N' R'
    exact ret h' tk v _ F' N' R'
theorem ResIn.none_eq {R : List (Addr × Obj)} {v : Value} (h : ResIn R v Option.none) : v = .none := by cases h; rfl
theorem ResIn.some_ref {R : List (Addr × Obj)} {v : Value} {pos : Int} {gs : List (Option (Int × Int))} (h : ResIn R v (Option.some (pos, gs))) : ∃ y g t gv, v = .ref y ∧ (y, tup [.int pos t, .ref g]) ∈ R ∧ (g, tup gv) ∈ R ∧ AllIn (GrpIn R) gv gs := by
  cases h with
  | some h1 h2 h3 => exact ⟨_, _, _, _, rfl, h1, h2, h3⟩
theorem kw11 : True := by
  k_with "m call ref" => ((k_here; k_dflt (show wpAny _ _ (call (Value.ref 352) _) _ _ _); k_dflt (refine' run_c2 ?B ?F ?X ?T ?hk ?hd ?hu ?N ?pq1 ?pq2 ?mq3 ?mq4 ?mq5 ?mq6 ?mq7 ?mq8 ?pq9 ?pq10 ?pq11 ?qq12 ?lq13 ?lq14 ?pq15 ?wq16 ?_; k_extra "w kpf_c"; (case N => k_asm); (case pq1 => assumption); (case pq2 => assumption); (case mq3 => k_mem); (case mq4 => k_mem); (case mq5 => k_mem); (case mq6 => k_mem); (case mq7 => k_mem); (case mq8 => k_mem); (case pq9 => assumption); (case pq10 => assumption); (case pq11 => assumption); (case qq12 => (intro q hq; kwd_rel)); (case lq13 => first | assumption | exact ktn_ltOf (by ktn_lt)); (case lq14 => first | assumption | exact ktn_ltOf (by ktn_lt)); (case pq15 => assumption); (case wq16 => kwd_inv); k_extra "w kcf_m"); intro h' tk' v' tl' F' N' R'; k_extra "w kbo_bools"))
  k_with "m call type:list" => ((k_here; (with_reducible show wpAny _ _ (call (Value.type _) [Value.ref _]) _ _ _); k_dflt (refine' kup_listOfT ?F ?N ?b ?e ?_ ?z; (case F => k_asm); (case N => k_asm); (case b => k_mem); (case e => exact List.toList_toArray); (case z => (rw [List.toList_toArray]; size_fits))); intro D' c' h' F' N' l1; (try k_lt l1); (try k_sweep)))
  trivial
theorem match_app {a b l : List (Addr × Obj)} {v : Value} {r : Option (Int × List (Option (Int × Int)))} (h : MatchIn ((a ++ b) ++ l) v r) : MatchIn (a ++ (b ++ l)) v r := by rwa [← List.append_assoc]
theorem News_app {h : Heap} {a b l : List (Addr × Obj)} (N : News h₀ L h ((a ++ b) ++ l)) : News h₀ L h (a ++ (b ++ l)) := by rwa [← List.append_assoc]
theorem match_c {cd sl lim ld : Addr} {k1 k2 k3 k4 t1 t2 t3 t4 t5 t6 t7 tt : Tok} {tx : Str} {size : Int} {sits : Array Value} {sc n kn cnt : Nat} {steps : List Stp} {r : Option (Int × List (Option (Int × Int)))}
    (B : Below A₀ base outer h₀) (F : Fr h₀ L s.heap m) (X : (kk.heap_1 w.params).In h₀) (T : Top p loose mean mg mb h₀) (hk : cs.kind = .function) (hd : dp + 20 < recursionLimit) (hu : un + 160 < cLine)
    (N : News h₀ L s.heap news) (hcd : (cd, tup [.ref sl, .int (kn : Int) t5]) ∈ news) (hsl : (sl, listOf sits sc) ∈ news) (hsz : sits.size < 1000) (hst : StepsIn news sits.toList steps) (hlim : (lim, instObj 250 ld) ∈ news) (hld : (ld, ldict w k1 k2 k3 k4 t1 t2 t3 t4) ∈ news)
    (hT : TxOk tx size) (hkn : kn ≤ 10) (hcn : cnt ≤ 10) (hn : n ≤ 900) (hr : runP steps size n ⟨0, 0, List.replicate cnt none, List.replicate kn (.pair 0 0) ++ List.replicate (cnt + 1) (.at 0)⟩ [] = some r)
    (hgl : ∀ pos gs, r = Option.some (pos, gs) → gs.length ≤ 100)
    (ret : ∀ h' tk v tl, Fr h₀ L h' m → News h₀ L h' (news ++ tl) → MatchIn (news ++ tl) v r → Q v { s with heap := h', toks := tk }) :
    wpAny (model PySem.Challenge.rw_sz0083_01.row.prog w) (ktrTop dp un gd cn cs L a ccd cl outer) (call (.ref 415) [.ref cd, .str tx tt, .int 0 t6, .int (cnt : Int) t7, .bool false, .bool false, .ref lim]) Q E s := by
  have hi1 : (cnt : Int) + 1 = ((cnt + 1 : Nat) : Int) := by omega
  refine wpAny_call ?_
  k_dflt ktr_enter
  k_steps
  rename ResIn _ _ _ => R9
  rename List (Addr × Obj) => tl9
  rcases r with _ | ⟨pos, gs⟩
  · have e9 := ResIn.none_eq R9
    subst e9
    k_steps
    exact ret _ _ _ _ (by k_asm) (by assumption : News h₀ L _ (news ++ _)) .none
  · have hgl0 : gs.length ≤ 100 := hgl pos gs rfl
    obtain ⟨y', g', t', gv', e', hy', hg', hgs9⟩ := ResIn.some_ref R9
    have hgl' := hgs9.length
    subst e'
    k_steps
    refine' ret _ _ _ (tl9 ++ [_, _]) (by k_asm) (News_app ?hb) (match_app (.some (List.mem_append_right _ (.head _)) (List.mem_append_right _ (.tail _ (.head _))) (hgs9.mono fun _ _ h => h.mono fun q hq => List.mem_append_left _ hq)))
    case hb => exact News_sub (by assumption : News h₀ L _ (_ :: _)) (List.forall_mem_append.mpr ⟨fun q hq => by (repeat (refine' List.mem_cons_of_mem _ ?_)); assumption, List.forall_mem_cons.mpr ⟨by k_mem, List.forall_mem_cons.mpr ⟨by k_mem, List.forall_mem_nil _⟩⟩⟩)
end
section
theorem sig0 {i : Nat} {x : Str} (h : (signs (Str.ofString ""))[i]? = some x) : False := by
  k_with_none
  k_with "w R" => first | assumption | (refine' sub_cons ?_; k_extra "w R")
  k_with "w z" => ((try simp only [Array.size_push] at *); first | omega | (rename (Array.size _ = _ + List.length _) => hq9; rw [hq9]; omega) | (simp only [List.size_toArray, List.length_nil, Nat.zero_add]; omega))
  k_with "w kct_strs" => (with_reducible first | assumption | exact And.right (by first | assumption | exact And.right (by first | assumption | exact And.right (by first | assumption | exact And.right (by first | assumption | exact And.right (by first | assumption | exact And.right (by first | assumption | exact And.right (by first | assumption | exact And.right (by first | assumption | exact And.right (by first | assumption | exact And.right (by assumption)))))))))))
  k_with "w kpf_c" => (((case B => k_asm); (case F => k_asm); (case X => k_asm); (case T => k_asm); (case hk => first | rfl | assumption)))
  k_with "w kcf_m" => (((case hd => ktr_room); (case hu => ktr_units)))
  k_with "w kcf_all" => ((k_extra "w kpf_c"; k_extra "w kcf_m"; (case N => k_asm)))
  k_with "w kpf_close" => (((case B => k_asm); (case X => k_asm); (case T => k_asm); k_extra "w kcf_m"; (case N => k_asm)))
  k_with "w kbo_bools" => (((try dsimp only [List.take]); (try dsimp only [List.take] at N'); (try k_lt l1); (try k_lt l2); (try k_sweep)))
  k_with "w kwd_rel" => (((repeat (refine' List.mem_cons_of_mem _ ?_)); first | assumption | (refine' List.mem_append_right _ ?_; kwd_rel) | (refine' List.mem_append_left _ ?_; kwd_rel)))
  k_with "w k_room" => (ktr_room)
  k_with "w k_units" => (ktr_units)
  k_with "w k_all" => (first | with_reducible assumption | exact ord_ne (by with_reducible assumption) (by k_mem) | exact lt_ne (by with_reducible kct_strs) | (refine List.forall_mem_append.mpr ⟨?_, ?_⟩ <;> k_all) | assumption | exact ord_ne (by assumption) (by k_mem) | exact lt_ne (by ktn_lt))
  k_with "w k_mem" => (((repeat (refine' List.mem_cons_of_mem _ ?_)); first | ktr_member | (refine' List.mem_append_left _ ?_; ktr_member) | (refine' List.mem_append_right _ ?_; ktr_member) | (refine' List.mem_append_left _ (List.mem_append_left _ ?_); ktr_member) | (refine' List.mem_append_right _ (List.mem_append_left _ ?_); ktr_member)))
  k_with "w ktn_open" => (first | assumption | exact Rest.next (by k_extra "w ktn_open"))
  k_with "m call ref" => ((k_here; (first | k_dflt (show wpAny _ _ (call (Value.ref 500) [Value.ref _, Value.str _ _]) _ _ _) | k_dflt (show wpAny _ _ (call (Value.ref 366) [Value.ref _, Value.ref _, Value.ref _]) _ _ _)); refine Halt.go ?_))
  k_with "m subscriptTail" => ((k_here; (with_reducible refine' tup_at ?Nq1 ?mq2 ?yq3 ?yq4 ?aq5 ?_ ?gq7); k_dflt ((case Nq1 => k_asm); (case mq2 => k_mem); (case yq3 => first | assumption | decide | kwd_inv); (case yq4 => first | assumption | decide | kwd_inv); (case aq5 => first | assumption | rfl); (case gq7 => (intros; with_unfolding_all rfl))); k_whole))
  k_with "m eval Name" => ((k_here; k_dflt (first | (refine' nameX_L ?F ?v ?_ ?a ?b ?c; (case b => kernel_rfl!); (case F => k_asm); (case a => rfl); (case c => rfl); (case v => rfl); k_whole) | (refine' nameX_K ?F ?X ?T ?e ?_ ?a ?b; (case b => kernel_rfl!); (case F => k_asm); (case X => k_asm); (case T => k_asm); (case a => rfl); (case e => k_is); k_whole))))
  k_with "m storeName" => ((k_here; k_dflt (refine' storeX_L ?F ?N ?_ ?a ?b; (case b => kernel_rfl!); (case F => k_asm); (case N => k_asm); (case a => rfl); k_whole; intro h' F' N'; (try k_sweep))))
  k_with "m ite" => (first | refine ite_pos (by assumption) ?_ | refine ite_neg (by assumption) ?_ | (k_closed; first | refine ite_pos (by decide +kernel) ?_ | refine ite_neg (by decide +kernel) ?_))
  k_with "w ktr_rel" => (first | assumption | (intro h9; injection h9 with h9; injection h9 with h9; first | (cases h9; done) | (simp at h9; done)))
  k_with "w ktr_unf" => (first | exact News1 (by k_asm) (by k_mem) (fun q hq => by k_ownIn) | exact News2 (by k_asm) (by k_mem) (by k_mem) (fun q hq => by k_ownIn))
  k_with "w ktn_lt" => (first | kct_strs | exact (allLt_app (by kct_strs)).1 | assumption)
  k_with "w k_ownIn" => (first | exact List.mem_append_left _ (by assumption) | exact List.mem_append_right _ (by assumption))
  k_with "m call builtin:list.append" => ((k_here; k_dflt (show wpAny _ _ (call (Value.builtin "list.append") [Value.ref _, _]) _ _ _); k_dflt (refine' append_K ?k1 ?k2 ?k3 ?_ ?z; (case k1 => k_asm); (case k2 => k_asm); (case k3 => k_upd); (case z => size_fits); k_whole); intro h' F' N'; (try k_sweep)))
  k_with "w kwd_inv" => (first | assumption | exact Nat.le_of_ble_eq_true rfl | omega | (simp only [List.length_append, List.length_take, List.length_drop, List.length_cons, List.length_nil, List.length_replicate]; omega))
  k_with "w kwd_same0" => (((try simp only [List.cons_append, List.nil_append, List.append_assoc] at N'); (try k_sweep)))
  k_with "w kwd_same1" => (((have hq' := put_size hn' hi'); (try simp only [Array.size_push, List.size_toArray, List.length_nil, Nat.zero_add] at N' hi' hq' hn'); (try dsimp only); k_extra "w kwd_same0"))
  k_with "w kwd_same2" => ((k_here; k_dflt (refine' ld ?F ?v ?_; (case F => k_asm); (case v => assumption); k_whole)))
  k_with "w omega" => (first | (with_reducible first | assumption | exact Nat.le_of_ble_eq_true (by with_unfolding_all rfl) | exact cl_lt (by with_unfolding_all rfl) | exact Nat.le_trans (by assumption) (Nat.le_of_ble_eq_true (by with_unfolding_all rfl)) | exact Nat.lt_of_lt_of_le (by assumption) (Nat.le_of_ble_eq_true (by with_unfolding_all rfl)) | exact Nat.le_trans (Nat.le_of_lt (by assumption)) (Nat.le_of_ble_eq_true (by with_unfolding_all rfl)) | exact eq_le (by assumption) (by assumption) (by with_unfolding_all rfl) | exact eq_lt (by assumption) (by assumption) (by with_unfolding_all rfl) | exact eq_ltt (by assumption) (by assumption) | exact (Int.toNat_of_nonneg (by assumption)).symm | exact Int.not_lt.mpr (by assumption) | exact Ne.symm (by assumption) | exact lt_and (by kct_strs) | exact ne_gt (by assumption) | exact ne_lt (by assumption) | exact ne_gt (And.left (by kct_strs)) | exact ne_lt (And.left (by kct_strs))) | decide +kernel)
  k_with "w ktr_room" => (first | exact rm2 (d := dp) (by with_reducible assumption) (by exact rfl) | exact rm0 (d := dp) (by with_reducible assumption) | exact rm1 (d := dp) (by with_reducible assumption) (by exact rfl) | exact rm3 (d := dp) (by with_reducible assumption) (by exact rfl) | exact rq2 (d := dp) (by with_reducible assumption) (by exact rfl) | exact rq1 (d := dp) (by with_reducible assumption) (by exact rfl) | exact rq3 (d := dp) (by with_reducible assumption) (by exact rfl) | exact rs1 (d := dp) (by with_reducible assumption) (by exact rfl) | exact rs2 (d := dp) (by with_reducible assumption) (by exact rfl) | exact rt1 (d := dp) (by with_reducible assumption) (by exact rfl) | exact rn2 (d := dp) (by with_reducible assumption) (by with_reducible assumption) (by exact rfl) | exact rv1 (d := dp) (by with_reducible assumption) (by exact rfl) | exact ru2 (d := dp) (by with_reducible assumption) (by with_reducible assumption) (by exact rfl) | omega)
  k_with "w ktr_units" => (first | exact rm2 (d := un) (by with_reducible assumption) (by exact rfl) | exact rm0 (d := un) (by with_reducible assumption) | exact rm1 (d := un) (by with_reducible assumption) (by exact rfl) | exact rm3 (d := un) (by with_reducible assumption) (by exact rfl) | exact rq2 (d := un) (by with_reducible assumption) (by exact rfl) | exact rq1 (d := un) (by with_reducible assumption) (by exact rfl) | exact rq3 (d := un) (by with_reducible assumption) (by exact rfl) | exact rs1 (d := un) (by with_reducible assumption) (by exact rfl) | exact rs2 (d := un) (by with_reducible assumption) (by exact rfl) | exact rt1 (d := un) (by with_reducible assumption) (by exact rfl) | exact rn2 (d := un) (by with_reducible assumption) (by with_reducible assumption) (by exact rfl) | exact rv1 (d := un) (by with_reducible assumption) (by exact rfl) | exact ru2 (d := un) (by with_reducible assumption) (by with_reducible assumption) (by exact rfl) | omega)
  have e : signs (Str.ofString "") = [] := rfl
  rw [e] at h
  simp at h
theorem chk_c {t : Tok} (B : Below A₀ base outer h₀) (F : Fr h₀ L s.heap m) (X : (kk.heap_1 w.params).In h₀) (T : Top p loose mean mg mb h₀) (hk : cs.kind = .function) (hd : dp + 4 < recursionLimit) (hu : un + 32 < cLine)
    (N : News h₀ L s.heap news)
    (ret : ∀ h' tk, Fr h₀ L h' m → News h₀ L h' news → Q .none { s with heap := h', toks := tk }) :
    wpAny (model PySem.Challenge.rw_sz0083_01.row.prog w) (ktrTop dp un gd cn cs L a ccd cl outer) (call (.ref 640) [.str (Str.ofString "") t]) Q E s := by
  refine wpAny_call ?_
  k_dflt ktr_enter
  k_steps
  all_goals first | exact false | exact (sig0 (by assumption)).elim | exact ret _ _ (by k_asm) (by first | k_asm | exact News_drop (by k_asm))
section
theorem kw12 : True := by
  k_with "m call ref" => ((k_here; k_dflt (show wpAny _ _ (call (Value.ref 640) _) _ _ _); k_dflt (refine' chk_c ?B ?F ?X ?T ?hk ?hd ?hu ?N  ?_; k_extra "w kpf_c"; (case N => k_asm); k_extra "w kcf_m"); intro h' tk' F' N'; k_extra "w kbo_bools"))
  trivial
theorem code_c2 {T' : Tr} {v : Value} {kn : Nat}
    (B : Below A₀ base outer h₀) (F : Fr h₀ L s.heap m) (X : (kk.heap_1 w.params).In h₀) (T : Top p loose mean mg mb h₀) (hk : cs.kind = .function) (hd : dp + 4 * (T'.ht + 3) < recursionLimit) (hu : un + 32 * (T'.ht + 3) < cLine) (N : News h₀ L s.heap news) (ht : TreeIn news v T') (hkn : (cmp 0 0 T').2 = (kn : Int)) (hz : (cmp 0 0 T').1.length < 800) (ret : ∀ h' tk y lst its c t tl, Fr h₀ L h' m → News h₀ L h' ((y, tup [.ref lst, .int (kn : Int) t]) :: (lst, listOf its c) :: (news ++ tl)) → StepsIn tl its.toList ((cmp 0 0 T').1 ++ [.met]) → its.size < 1000 → (∀ q ∈ news, q.1 < y) → (∀ q ∈ news, q.1 < lst) → Q (.ref y) { s with heap := h', toks := tk }) :
    wpAny (model PySem.Challenge.rw_sz0083_01.row.prog w) (ktrTop dp un gd cn cs L a ccd cl outer) (call (.ref 324) [v]) Q E s :=
  code_c B F X T hk hd hu N ht hz fun h' tk y lst its c t tl F' N' st l1 l2 _ => by
    rw [hkn] at N'
    refine ret h' tk y lst its c t tl F' N' st ?_ l1 l2
    have := st.length
    rw [Array.length_toList, List.length_append, List.length_cons, List.length_nil] at this
    omega
theorem match_c2 {b1 b2 : Bool} {cd sl lim ld : Addr} {k1 k2 k3 k4 t1 t2 t3 t4 t5 t6 t7 tt : Tok} {tx : Str} {size : Int} {sits : Array Value} {sc n kn cnt : Nat} {steps : List Stp} {r : Option (Int × List (Option (Int × Int)))}
    (B : Below A₀ base outer h₀) (F : Fr h₀ L s.heap m) (X : (kk.heap_1 w.params).In h₀) (T : Top p loose mean mg mb h₀) (hk : cs.kind = .function) (hd : dp + 20 < recursionLimit) (hu : un + 160 < cLine) (N : News h₀ L s.heap news) (hb1 : b1 = false) (hb2 : b2 = false) (hr : runP steps size n ⟨0, 0, List.replicate cnt none, List.replicate kn (.pair 0 0) ++ List.replicate (cnt + 1) (.at 0)⟩ [] = some r) (hT : TxOk tx size) (hgl : ∀ pos gs, r = Option.some (pos, gs) → gs.length ≤ 100) (hcd : (cd, tup [.ref sl, .int (kn : Int) t5]) ∈ news) (hsl : (sl, listOf sits sc) ∈ news) (hsz : sits.size < 1000) (hst : StepsIn news sits.toList steps) (hlim : (lim, instObj 250 ld) ∈ news) (hld : (ld, ldict w k1 k2 k3 k4 t1 t2 t3 t4) ∈ news) (hkn : kn ≤ 10) (hcn : cnt ≤ 10) (hn : n ≤ 900) (ret : ∀ h' tk v tl, Fr h₀ L h' m → News h₀ L h' (news ++ tl) → MatchIn (news ++ tl) v r → Q v { s with heap := h', toks := tk }) :
    wpAny (model PySem.Challenge.rw_sz0083_01.row.prog w) (ktrTop dp un gd cn cs L a ccd cl outer) (call (.ref 415) [.ref cd, .str tx tt, .int 0 t6, .int (cnt : Int) t7, .bool b1, .bool b2, .ref lim]) Q E s := by
  subst hb1 hb2
  exact match_c B F X T hk hd hu N hcd hsl hsz hst hlim hld hT hkn hcn hn hr hgl ret
theorem MatchIn.mono {R R' : List (Addr × Obj)} {v : Value} {r : Option (Int × List (Option (Int × Int)))} (h : MatchIn R v r) (hs : ∀ q ∈ R, q ∈ R') : MatchIn R' v r := by
  cases h with
  | none => exact .none
  | some h1 h2 h3 => exact .some (hs _ h1) (hs _ h2) (h3.mono fun _ _ h => h.mono hs)
theorem MatchIn.none_eq {R : List (Addr × Obj)} {v : Value} (h : MatchIn R v Option.none) : v = .none := by cases h; rfl
theorem MatchIn.some_ref {R : List (Addr × Obj)} {v : Value} {pos : Int} {gs : List (Option (Int × Int))} (h : MatchIn R v (Option.some (pos, gs))) : ∃ y g c t gv, v = .ref y ∧ (y, tup [.int pos t, .ref g]) ∈ R ∧ (g, listOf gv.toArray c) ∈ R ∧ AllIn (GrpIn R) gv gs := by
  cases h with
  | some h1 h2 h3 => exact ⟨_, _, _, _, _, rfl, h1, h2, h3⟩
theorem News_pre {h : Heap} {l : List (Addr × Obj)} {a b : Addr × Obj} (N : News h₀ L h l) (ha : a ∈ l) (hb : b ∈ l) : News h₀ L h (a :: b :: l) := News_sub N (List.forall_mem_cons.mpr ⟨ha, List.forall_mem_cons.mpr ⟨hb, fun _ h => h⟩⟩)
local macro_rules | `(tactic| kwd_less) => `(tactic| k_extra "w kwd_less")
theorem News_self {h : Heap} {l : List (Addr × Obj)} (N : News h₀ L h l) (hs : ∀ q ∈ news, q ∈ l) : News h₀ L h (news ++ l) := News_sub N (List.forall_mem_append.mpr ⟨hs, fun _ h => h⟩)
theorem end_c {src tx : Str} {t1 t2 : Tok} {T1 : Tr} {n nf kn cnt : Nat} {i1 : Int} {size : Int} {r : Option (Int × List (Option (Int × Int)))} (S1 : RSpec w 507 n src 0 0 0 i1 (cnt : Int) T1) (hs1 : Rest src i1 []) (hn : 16 ≤ n) (hn2 : n ≤ 100) (ht2 : T1.ht ≤ 8)
    (hkn : (cmp 0 0 T1).2 = (kn : Int)) (hz : (cmp 0 0 T1).1.length < 800) (hT : TxOk tx size) (hkn2 : kn ≤ 10) (hcn2 : cnt ≤ 10) (hnf : nf ≤ 900)
    (hr : runP ((cmp 0 0 T1).1 ++ [.met]) size nf ⟨0, 0, List.replicate cnt none, List.replicate kn (.pair 0 0) ++ List.replicate (cnt + 1) (.at 0)⟩ [] = some r) (hgl : ∀ pos gs, r = Option.some (pos, gs) → gs.length ≤ 100)
    (B : Below A₀ base outer h₀) (F : Fr h₀ L s.heap m) (X : (kk.heap_1 w.params).In h₀) (T : Top p loose mean mg mb h₀) (hk : cs.kind = .function) (hd : dp + 180 < recursionLimit) (hu : un + 1440 < cLine)
    (N : News h₀ L s.heap news)
    (ret : ∀ h' tk v tl, Fr h₀ L h' m → News h₀ L h' (news ++ tl) → MatchIn (news ++ tl) v r → Q v { s with heap := h', toks := tk }) :
    wpAny (model PySem.Challenge.rw_sz0083_01.row.prog w) (ktrTop dp un gd cn cs L a ccd cl outer) (call (.ref 661) [.str src t1, .str tx t2]) Q E s := by
  k_with "w kwd_less" => ((fail_if_success (have z9 := @off20)); first | assumption | (refine' List.mem_cons_of_mem _ ?_; kwd_less))
  k_with "m call ref" => ((fail_if_success (have z9 := @off20)); (k_here; k_dflt (show wpAny _ _ (call (Value.ref 605) _) _ _ _); k_dflt (refine' parse_c ?B ?F ?X ?T ?hk ?hd ?hu ?N ?pq1 ?pq2 ?pq3 ?pq4 ?_; k_extra "w kpf_c"; (case N => k_asm); (case pq1 => assumption); (case pq2 => assumption); (case pq3 => assumption); (case pq4 => assumption); k_extra "w kcf_m"); intro h' tk' y' v' k' tl' F' N' l1 o' t9'; k_extra "w kbo_bools"))
  k_with "m call ref" => ((fail_if_success (have z9 := @off20)); ((k_here; k_dflt (show wpAny _ _ (call (Value.ref 324) _) _ _ _); k_dflt (refine' code_c2 ?B ?F ?X ?T ?hk ?hd ?hu ?N ?tq1 ?pq2 ?pq3 ?_; k_extra "w kpf_c"; (case N => k_asm); (case tq1 => exact TreeIn.mono (by assumption) (fun q hq => by kwd_rel)); (case pq2 => assumption); (case pq3 => assumption); k_extra "w kcf_m"); intro h' tk' y' lst' its' c' t' tl' F' N' st' hz' l1 l2; k_extra "w kbo_bools"); k_extra "w kwd_same0"))
  k_with "m call ref" => ((fail_if_success (have z9 := @off20)); (k_here; k_dflt (show wpAny _ _ (call (Value.ref 415) _) _ _ _); k_dflt (refine' match_c2 ?B ?F ?X ?T ?hk ?hd ?hu ?N ?dq1 ?dq2 ?pq3 ?pq4 ?pq5 ?mq6 ?mq7 ?pq8 ?sq9 ?mq10 ?mq11 ?pq12 ?pq13 ?pq14 ?_; k_extra "w kpf_c"; (case N => k_asm); (case dq1 => decide +kernel); (case dq2 => decide +kernel); (case pq3 => assumption); (case pq4 => assumption); (case pq5 => assumption); (case mq6 => k_mem); (case mq7 => k_mem); (case pq8 => assumption); (case sq9 => exact StepsIn.mono (by assumption) (fun q hq => by kwd_rel)); (case mq10 => k_mem); (case mq11 => k_mem); (case pq12 => assumption); (case pq13 => assumption); (case pq14 => assumption); k_extra "w kcf_m"); intro h' tk' v' tl' F' N' R'; k_extra "w kbo_bools"))
  have hg0 : (0 : Int) ≤ (cnt : Int) := by omega
  refine wpAny_call ?_
  k_dflt ktr_enter
  k_steps
  rename MatchIn _ _ _ => R9
  rcases r with _ | ⟨pos, gs⟩
  · have e9 := MatchIn.none_eq R9
    subst e9
    k_steps
    exact ret _ _ _ _ (by k_asm) (News_self (by assumption : News h₀ L _ (_ ++ _)) (fun q hq => by kwd_rel)) .none
  · have hgl0 : gs.length ≤ 100 := hgl pos gs rfl
    obtain ⟨y', g', c', t', gv', e', hy', hg', hgs9⟩ := MatchIn.some_ref R9
    have hgl' := hgs9.length
    rename News _ _ _ _ => N8
    have N9' := News_pre N8 hy' hg'
    clear N8
    subst e'
    k_steps
    exact ret _ _ _ _ (by k_asm) (News_self (by assumption : News h₀ L _ (_ :: _)) (fun q hq => by kwd_rel)) (.some (List.mem_append_right _ (by k_mem)) (List.mem_append_right _ (by k_mem)) (hgs9.mono fun _ _ h => h.mono fun q hq => List.mem_append_right _ (by kwd_less)))
end
theorem off20 : True := trivial
end
section
theorem kw13 : True := by
  k_with_none
  k_with "w R" => first | assumption | (refine' sub_cons ?_; k_extra "w R")
  k_with "w z" => ((try simp only [Array.size_push] at *); first | omega | (rename (Array.size _ = _ + List.length _) => hq9; rw [hq9]; omega) | (simp only [List.size_toArray, List.length_nil, Nat.zero_add]; omega))
  k_with "w kct_strs" => (with_reducible first | assumption | exact And.right (by first | assumption | exact And.right (by first | assumption | exact And.right (by first | assumption | exact And.right (by first | assumption | exact And.right (by first | assumption | exact And.right (by first | assumption | exact And.right (by first | assumption | exact And.right (by first | assumption | exact And.right (by first | assumption | exact And.right (by assumption)))))))))))
  k_with "w kpf_c" => (((case B => k_asm); (case F => k_asm); (case X => k_asm); (case T => k_asm); (case hk => first | rfl | assumption)))
  k_with "w kcf_m" => (((case hd => ktr_room); (case hu => ktr_units)))
  k_with "w kcf_all" => ((k_extra "w kpf_c"; k_extra "w kcf_m"; (case N => k_asm)))
  k_with "w kpf_close" => (((case B => k_asm); (case X => k_asm); (case T => k_asm); k_extra "w kcf_m"; (case N => k_asm)))
  k_with "w kbo_bools" => (((try dsimp only [List.take]); (try dsimp only [List.take] at N'); (try k_lt l1); (try k_lt l2); (try k_sweep)))
  k_with "w kwd_rel" => (((repeat (refine' List.mem_cons_of_mem _ ?_)); first | assumption | (refine' List.mem_append_right _ ?_; kwd_rel) | (refine' List.mem_append_left _ ?_; kwd_rel)))
  k_with "w k_room" => (ktr_room)
  k_with "w k_units" => (ktr_units)
  k_with "w k_all" => (first | with_reducible assumption | exact ord_ne (by with_reducible assumption) (by k_mem) | exact lt_ne (by with_reducible kct_strs) | (refine List.forall_mem_append.mpr ⟨?_, ?_⟩ <;> k_all) | assumption | exact ord_ne (by assumption) (by k_mem) | exact lt_ne (by ktn_lt))
  k_with "w k_mem" => (((repeat (refine' List.mem_cons_of_mem _ ?_)); first | ktr_member | (refine' List.mem_append_left _ ?_; ktr_member) | (refine' List.mem_append_right _ ?_; ktr_member) | (refine' List.mem_append_left _ (List.mem_append_left _ ?_); ktr_member) | (refine' List.mem_append_right _ (List.mem_append_left _ ?_); ktr_member)))
  k_with "w ktn_open" => (first | assumption | exact Rest.next (by k_extra "w ktn_open"))
  k_with "m call ref" => ((k_here; (first | k_dflt (show wpAny _ _ (call (Value.ref 500) [Value.ref _, Value.str _ _]) _ _ _) | k_dflt (show wpAny _ _ (call (Value.ref 366) [Value.ref _, Value.ref _, Value.ref _]) _ _ _)); refine Halt.go ?_))
  k_with "m subscriptTail" => ((k_here; (with_reducible refine' tup_at ?Nq1 ?mq2 ?yq3 ?yq4 ?aq5 ?_ ?gq7); k_dflt ((case Nq1 => k_asm); (case mq2 => k_mem); (case yq3 => first | assumption | decide | kwd_inv); (case yq4 => first | assumption | decide | kwd_inv); (case aq5 => first | assumption | rfl); (case gq7 => (intros; with_unfolding_all rfl))); k_whole))
  k_with "m eval Name" => ((k_here; k_dflt (first | (refine' nameX_L ?F ?v ?_ ?a ?b ?c; (case b => kernel_rfl!); (case F => k_asm); (case a => rfl); (case c => rfl); (case v => rfl); k_whole) | (refine' nameX_K ?F ?X ?T ?e ?_ ?a ?b; (case b => kernel_rfl!); (case F => k_asm); (case X => k_asm); (case T => k_asm); (case a => rfl); (case e => k_is); k_whole))))
  k_with "m storeName" => ((k_here; k_dflt (refine' storeX_L ?F ?N ?_ ?a ?b; (case b => kernel_rfl!); (case F => k_asm); (case N => k_asm); (case a => rfl); k_whole; intro h' F' N'; (try k_sweep))))
  k_with "m ite" => (first | refine ite_pos (by assumption) ?_ | refine ite_neg (by assumption) ?_ | (k_closed; first | refine ite_pos (by decide +kernel) ?_ | refine ite_neg (by decide +kernel) ?_))
  k_with "w ktr_rel" => (first | assumption | (intro h9; injection h9 with h9; injection h9 with h9; first | (cases h9; done) | (simp at h9; done)))
  k_with "w ktr_unf" => (first | exact News1 (by k_asm) (by k_mem) (fun q hq => by k_ownIn) | exact News2 (by k_asm) (by k_mem) (by k_mem) (fun q hq => by k_ownIn))
  k_with "w ktn_lt" => (first | kct_strs | exact (allLt_app (by kct_strs)).1 | assumption)
  k_with "w k_ownIn" => (first | exact List.mem_append_left _ (by assumption) | exact List.mem_append_right _ (by assumption))
  k_with "m call builtin:list.append" => ((k_here; k_dflt (show wpAny _ _ (call (Value.builtin "list.append") [Value.ref _, _]) _ _ _); k_dflt (refine' append_K ?k1 ?k2 ?k3 ?_ ?z; (case k1 => k_asm); (case k2 => k_asm); (case k3 => k_upd); (case z => size_fits); k_whole); intro h' F' N'; (try k_sweep)))
  k_with "w kwd_inv" => (first | assumption | exact Nat.le_of_ble_eq_true rfl | omega | (simp only [List.length_append, List.length_take, List.length_drop, List.length_cons, List.length_nil, List.length_replicate]; omega))
  k_with "w kwd_same0" => (((try simp only [List.cons_append, List.nil_append, List.append_assoc] at N'); (try k_sweep)))
  k_with "w kwd_same1" => (((have hq' := put_size hn' hi'); (try simp only [Array.size_push, List.size_toArray, List.length_nil, Nat.zero_add] at N' hi' hq' hn'); (try dsimp only); k_extra "w kwd_same0"))
  k_with "w kwd_same2" => ((k_here; k_dflt (refine' ld ?F ?v ?_; (case F => k_asm); (case v => assumption); k_whole)))
  k_with "w omega" => (first | (with_reducible first | assumption | exact Nat.le_of_ble_eq_true (by with_unfolding_all rfl) | exact cl_lt (by with_unfolding_all rfl) | exact Nat.le_trans (by assumption) (Nat.le_of_ble_eq_true (by with_unfolding_all rfl)) | exact Nat.lt_of_lt_of_le (by assumption) (Nat.le_of_ble_eq_true (by with_unfolding_all rfl)) | exact Nat.le_trans (Nat.le_of_lt (by assumption)) (Nat.le_of_ble_eq_true (by with_unfolding_all rfl)) | exact eq_le (by assumption) (by assumption) (by with_unfolding_all rfl) | exact eq_lt (by assumption) (by assumption) (by with_unfolding_all rfl) | exact eq_ltt (by assumption) (by assumption) | exact (Int.toNat_of_nonneg (by assumption)).symm | exact Int.not_lt.mpr (by assumption) | exact Ne.symm (by assumption) | exact lt_and (by kct_strs) | exact ne_gt (by assumption) | exact ne_lt (by assumption) | exact ne_gt (And.left (by kct_strs)) | exact ne_lt (And.left (by kct_strs))) | decide +kernel)
  k_with "w ktr_room" => (first | exact rm2 (d := dp) (by with_reducible assumption) (by exact rfl) | exact rm0 (d := dp) (by with_reducible assumption) | exact rm1 (d := dp) (by with_reducible assumption) (by exact rfl) | exact rm3 (d := dp) (by with_reducible assumption) (by exact rfl) | exact rq2 (d := dp) (by with_reducible assumption) (by exact rfl) | exact rq1 (d := dp) (by with_reducible assumption) (by exact rfl) | exact rq3 (d := dp) (by with_reducible assumption) (by exact rfl) | exact rs1 (d := dp) (by with_reducible assumption) (by exact rfl) | exact rs2 (d := dp) (by with_reducible assumption) (by exact rfl) | exact rt1 (d := dp) (by with_reducible assumption) (by exact rfl) | exact rn2 (d := dp) (by with_reducible assumption) (by with_reducible assumption) (by exact rfl) | exact rv1 (d := dp) (by with_reducible assumption) (by exact rfl) | exact ru2 (d := dp) (by with_reducible assumption) (by with_reducible assumption) (by exact rfl) | omega)
  k_with "w ktr_units" => (first | exact rm2 (d := un) (by with_reducible assumption) (by exact rfl) | exact rm0 (d := un) (by with_reducible assumption) | exact rm1 (d := un) (by with_reducible assumption) (by exact rfl) | exact rm3 (d := un) (by with_reducible assumption) (by exact rfl) | exact rq2 (d := un) (by with_reducible assumption) (by exact rfl) | exact rq1 (d := un) (by with_reducible assumption) (by exact rfl) | exact rq3 (d := un) (by with_reducible assumption) (by exact rfl) | exact rs1 (d := un) (by with_reducible assumption) (by exact rfl) | exact rs2 (d := un) (by with_reducible assumption) (by exact rfl) | exact rt1 (d := un) (by with_reducible assumption) (by exact rfl) | exact rn2 (d := un) (by with_reducible assumption) (by with_reducible assumption) (by exact rfl) | exact rv1 (d := un) (by with_reducible assumption) (by exact rfl) | exact ru2 (d := un) (by with_reducible assumption) (by with_reducible assumption) (by exact rfl) | omega)
  trivial
theorem RSpec.mono {f : Addr} {n n' : Nat} {tx : Str} {d i g i' g' : Int} {T' : Tr} (h : RSpec w f n tx d i g i' g' T') (hn : n ≤ n') : RSpec w f n' tx d i g i' g' T' :=
  fun p loose mean mg mb dp un gd cn cs L a ccd cl outer A₀ base h₀ m s Q E news upd x dx k1 k2 k3 k4 k5 t1 t2 t3 t4 b B F X T hk hd hu N hx U ret =>
    h p loose mean mg mb dp un gd cn cs L a ccd cl outer A₀ base h₀ m s Q E news upd x dx k1 k2 k3 k4 k5 t1 t2 t3 t4 b B F X T hk (by omega) (by omega) N hx U ret
theorem nw_at {l : List Nat} {wd : Str} (k : Nat) (h1 : k < wd.length) (h : l[k]? ≠ wd.cps.toList[k]?) : (⟨(l.take wd.length).toArray⟩ : Str) ≠ wd := fun e => h (by
  have e2 := congrArg (fun s : Str => s.cps.toList[k]?) e
  simp only [List.toList_toArray] at e2
  rw [List.getElem?_take_of_lt h1] at e2
  exact e2)
theorem isEnd97 (l : List Nat) : (!isEnd ⟨((97 :: l).take 1).toArray⟩) = true := by show (!isEnd ⟨[97].toArray⟩) = true; decide
theorem isEnd40 (l : List Nat) : (!isEnd ⟨((40 :: l).take 1).toArray⟩) = true := by show (!isEnd ⟨[40].toArray⟩) = true; decide
theorem isEnd41 (l : List Nat) : (!isEnd ⟨((41 :: l).take 1).toArray⟩) = false := by show (!isEnd ⟨[41].toArray⟩) = false; decide
theorem isEnd0 : (!isEnd ⟨(([] : List Nat).take 1).toArray⟩) = false := by decide
/-- a term: the letter a with a quantifier -/
theorem kw14 : True := by
  k_with "w kst_p2" => ((fail_if_success (have z9 := @off21)); exact nw_at 0 (by decide) (by show (some 97 : Option Nat) ≠ _; decide))
  trivial
theorem ta {tx : Str} {d i g i2 least : Int} {most : Option Int} {l l2 : List Nat} (hs : Rest tx i (97 :: l)) (SQ : QSpec w 12 tx (i + 1) i2 least most) (hs2 : Rest tx i2 l2) (h : l2[0]? ≠ some 63) :
    RSpec w 521 18 tx d i g i2 g (.rep least most false .chr (g + 1) (g + 1)) :=
  term_n (n := 16) (by decide) hs (by k_extra "w kst_p2") (by k_extra "w kst_p2") (by k_extra "w kst_p2") (by k_extra "w kst_p2") (by k_extra "w kst_p2") (by k_extra "w kst_p2") ((atom_a hs).mono (by decide)) SQ hs2 (nw_at 0 (by decide) h)
theorem tz {tx : Str} {d i g i2 least : Int} {most : Option Int} {l l2 : List Nat} (hs : Rest tx i (97 :: l)) (SQ : QSpec w 12 tx (i + 1) i2 least most) (hs2 : Rest tx i2 (63 :: l2)) :
    RSpec w 521 18 tx d i g (i2 + 1) g (.rep least most true .chr (g + 1) (g + 1)) :=
  term_z (n := 16) (by decide) hs (by k_extra "w kst_p2") (by k_extra "w kst_p2") (by k_extra "w kst_p2") (by k_extra "w kst_p2") (by k_extra "w kst_p2") (by k_extra "w kst_p2") ((atom_a hs).mono (by decide)) SQ hs2
end
theorem off21 : True := trivial
section
theorem rest0 {l : List Nat} (h : l.length ≤ 1000) : Rest ⟨l.toArray⟩ 0 l := ⟨Int.le_refl _, by decide, by simpa [PySem.Str.length] using h, by simp⟩
theorem nbar (l : List Nat) (h : l[0]? ≠ some 124) : (⟨(l.take (Str.ofString "|").length).toArray⟩ : Str) ≠ Str.ofString "|" := nw_at 0 (by decide) h
noncomputable abbrev Dig (c : Nat) : Prop := decide (48 ≤ c ∧ c ≤ 57) = true
noncomputable abbrev ra (c : Nat) (g : Int) : Tr := .rep ((c : Int) - 48) (some ((c : Int) - 48)) false .chr g g
theorem sh1 {c e : Nat} (dc : Dig c) (de : Dig e) : ∃ i1, RSpec w 507 40 ⟨[97, 123, c, 125, 97, 123, e, 125].toArray⟩ 0 0 0 i1 ((0 : Nat) : Int) (.seq2 (ra c 1) (ra e 1)) ∧ Rest ⟨[97, 123, c, 125, 97, 123, e, 125].toArray⟩ i1 [] := by
  have r0 := rest0 (l := [97, 123, c, 125, 97, 123, e, 125]) (by simp)
  have r4 := r0.next.next.next.next
  have r8 := r4.next.next.next.next
  exact ⟨_, (disj r8 (nbar _ (by decide)) (by decide) (alt2 r0 r4 r8 (by decide) (isEnd97 _) (isEnd97 _) isEnd0 (ta r0 (q1 r0.next dc) r4 (by simp)) (ta r4 (q1 r4.next de) r8 (by simp)))).mono (by decide), r8⟩
theorem sh2 {c : Nat} (dc : Dig c) : ∃ i1, RSpec w 507 40 ⟨[97, 123, c, 125].toArray⟩ 0 0 0 i1 ((0 : Nat) : Int) (.seq1 (ra c 1)) ∧ Rest ⟨[97, 123, c, 125].toArray⟩ i1 [] := by
  have r0 := rest0 (l := [97, 123, c, 125]) (by simp)
  have r4 := r0.next.next.next.next
  exact ⟨_, (disj r4 (nbar _ (by decide)) (by decide) (alt1 r0 r4 (by decide) (isEnd97 _) isEnd0 (ta r0 (q1 r0.next dc) r4 (by simp)))).mono (by decide), r4⟩
theorem sh1z {c e : Nat} (dc : Dig c) (de : Dig e) : ∃ i1, RSpec w 507 40 ⟨[97, 123, c, 125, 63, 97, 123, e, 125].toArray⟩ 0 0 0 i1 ((0 : Nat) : Int) (.seq2 (.rep ((c : Int) - 48) (some ((c : Int) - 48)) true .chr 1 1) (ra e 1)) ∧ Rest ⟨[97, 123, c, 125, 63, 97, 123, e, 125].toArray⟩ i1 [] := by
  have r0 := rest0 (l := [97, 123, c, 125, 63, 97, 123, e, 125]) (by simp)
  have r4 := r0.next.next.next.next
  have r5 := r4.next
  have r8 := r5.next.next.next.next
  exact ⟨_, (disj r8 (nbar _ (by decide)) (by decide) (alt2 r0 r5 r8 (by decide) (isEnd97 _) (isEnd97 _) isEnd0 (tz r0 (q1 r0.next dc) r4) (ta r5 (q1 r5.next de) r8 (by simp)))).mono (by decide), r8⟩
theorem sh6 {c f e : Nat} (dc : Dig c) (df : Dig f) (hcf : c ≤ f) (de : Dig e) : ∃ i1, RSpec w 507 40 ⟨[97, 123, c, 44, f, 125, 97, 123, e, 125].toArray⟩ 0 0 0 i1 ((0 : Nat) : Int) (.seq2 (.rep ((c : Int) - 48) (some ((f : Int) - 48)) false .chr 1 1) (ra e 1)) ∧ Rest ⟨[97, 123, c, 44, f, 125, 97, 123, e, 125].toArray⟩ i1 [] := by
  have r0 := rest0 (l := [97, 123, c, 44, f, 125, 97, 123, e, 125]) (by simp)
  have r6 := r0.next.next.next.next.next.next
  have r8 := r6.next.next.next.next
  exact ⟨_, (disj r8 (nbar _ (by decide)) (by decide) (alt2 r0 r6 r8 (by decide) (isEnd97 _) (isEnd97 _) isEnd0 (ta r0 (q2 r0.next dc df hcf) r6 (by simp)) (ta r6 (q1 r6.next de) r8 (by simp)))).mono (by decide), r8⟩
theorem sh6z {c f e : Nat} (dc : Dig c) (df : Dig f) (hcf : c ≤ f) (de : Dig e) : ∃ i1, RSpec w 507 40 ⟨[97, 123, c, 44, f, 125, 63, 97, 123, e, 125].toArray⟩ 0 0 0 i1 ((0 : Nat) : Int) (.seq2 (.rep ((c : Int) - 48) (some ((f : Int) - 48)) true .chr 1 1) (ra e 1)) ∧ Rest ⟨[97, 123, c, 44, f, 125, 63, 97, 123, e, 125].toArray⟩ i1 [] := by
  have r0 := rest0 (l := [97, 123, c, 44, f, 125, 63, 97, 123, e, 125]) (by simp)
  have r6 := r0.next.next.next.next.next.next
  have r7 := r6.next
  have r8 := r7.next.next.next.next
  exact ⟨_, (disj r8 (nbar _ (by decide)) (by decide) (alt2 r0 r7 r8 (by decide) (isEnd97 _) (isEnd97 _) isEnd0 (tz r0 (q2 r0.next dc df hcf) r6) (ta r7 (q1 r7.next de) r8 (by simp)))).mono (by decide), r8⟩
theorem sh7 {c e : Nat} (dc : Dig c) (de : Dig e) : ∃ i1, RSpec w 507 40 ⟨[97, 123, c, 44, 125, 97, 123, e, 125].toArray⟩ 0 0 0 i1 ((0 : Nat) : Int) (.seq2 (.rep ((c : Int) - 48) none false .chr 1 1) (ra e 1)) ∧ Rest ⟨[97, 123, c, 44, 125, 97, 123, e, 125].toArray⟩ i1 [] := by
  have r0 := rest0 (l := [97, 123, c, 44, 125, 97, 123, e, 125]) (by simp)
  have r6 := r0.next.next.next.next.next
  have r8 := r6.next.next.next.next
  exact ⟨_, (disj r8 (nbar _ (by decide)) (by decide) (alt2 r0 r6 r8 (by decide) (isEnd97 _) (isEnd97 _) isEnd0 (ta r0 (q3 r0.next dc) r6 (by simp)) (ta r6 (q1 r6.next de) r8 (by simp)))).mono (by decide), r8⟩
theorem sh7z {c e : Nat} (dc : Dig c) (de : Dig e) : ∃ i1, RSpec w 507 40 ⟨[97, 123, c, 44, 125, 63, 97, 123, e, 125].toArray⟩ 0 0 0 i1 ((0 : Nat) : Int) (.seq2 (.rep ((c : Int) - 48) none true .chr 1 1) (ra e 1)) ∧ Rest ⟨[97, 123, c, 44, 125, 63, 97, 123, e, 125].toArray⟩ i1 [] := by
  have r0 := rest0 (l := [97, 123, c, 44, 125, 63, 97, 123, e, 125]) (by simp)
  have r6 := r0.next.next.next.next.next
  have r7 := r6.next
  have r8 := r7.next.next.next.next
  exact ⟨_, (disj r8 (nbar _ (by decide)) (by decide) (alt2 r0 r7 r8 (by decide) (isEnd97 _) (isEnd97 _) isEnd0 (tz r0 (q3 r0.next dc) r6) (ta r7 (q1 r7.next de) r8 (by simp)))).mono (by decide), r8⟩
/-- a group with a quantifier {e} behind it, from its atom's reading -/
theorem tg {tx : Str} {n : Nat} {i1 g1 : Int} {e a3 a4 : Nat} {l l2 : List Nat} {T1 : Tr} (hn : 16 ≤ n) (hs : Rest tx 0 (40 :: a3 :: a4 :: l)) (ne1 : a3 ≠ 63 ∨ (a4 ≠ 61 ∧ a4 ≠ 33)) (SA : RSpec w 556 n tx 0 0 0 i1 g1 T1) (hq : Rest tx i1 (123 :: e :: 125 :: l2)) (de : Dig e) (h : l2[0]? ≠ some 63) :
    RSpec w 521 (n + 2) tx 0 0 0 (i1 + 1 + 1 + 1) g1 (.rep ((e : Int) - 48) (some ((e : Int) - 48)) false T1 (0 + 1) (g1 + 1)) := by
  k_with "w kst_p1" => ((fail_if_success (have z9 := @off22)); exact nw_at 0 (by decide) (by show (some 40 : Option Nat) ≠ _; decide))
  refine term_n hn hs (by k_extra "w kst_p1") (by k_extra "w kst_p1") (by k_extra "w kst_p1") (by k_extra "w kst_p1") ?_ ?_ SA (q1 hq de) hq.next.next.next (nw_at 0 (by decide) h)
  · rcases ne1 with h | h
    · exact nw_at 1 (by decide) (by show some a3 ≠ some 63; simpa using h)
    · exact nw_at 2 (by decide) (by show some a4 ≠ some 61; simpa using h.1)
  · rcases ne1 with h | h
    · exact nw_at 1 (by decide) (by show some a3 ≠ some 63; simpa using h)
    · exact nw_at 2 (by decide) (by show some a4 ≠ some 33; simpa using h.2)
theorem sh3 {c e : Nat} (dc : Dig c) (de : Dig e) : ∃ i1, RSpec w 507 40 ⟨[40, 63, 58, 97, 123, c, 125, 41, 123, e, 125].toArray⟩ 0 0 0 i1 ((0 : Nat) : Int) (.seq1 (.rep ((e : Int) - 48) (some ((e : Int) - 48)) false (.grp none (.seq1 (ra c 1))) 1 1)) ∧ Rest ⟨[40, 63, 58, 97, 123, c, 125, 41, 123, e, 125].toArray⟩ i1 [] := by
  have r0 := rest0 (l := [40, 63, 58, 97, 123, c, 125, 41, 123, e, 125]) (by simp)
  have r3 : Rest ⟨[40, 63, 58, 97, 123, c, 125, 41, 123, e, 125].toArray⟩ (0 + 1 + 2) [97, 123, c, 125, 41, 123, e, 125] := r0.next.next.next
  have r7 := r3.next.next.next.next
  have r8 := r7.next
  have r11 := r8.next.next.next
  have A := disj (w := w) r7 (nbar _ (by simp)) (by decide) (alt1 (d := 1) r3 r7 (by decide) (isEnd97 _) (isEnd41 _) (ta (g := 0) r3 (q1 r3.next dc) r7 (by simp)))
  have G := atom_g r0 (by decide) (within0 r7 (by decide) A)
  exact ⟨_, (disj r11 (nbar _ (by decide)) (by decide) (alt1 r0 r11 (by decide) (isEnd40 _) isEnd0 (tg (by decide) r0 (.inr ⟨by decide, by decide⟩) G r8 de (by simp)))).mono (by decide), r11⟩
theorem sh4 {c f e : Nat} (dc : Dig c) (df : Dig f) (de : Dig e) : ∃ i1, RSpec w 507 40 ⟨[40, 63, 58, 97, 123, c, 125, 97, 123, f, 125, 41, 123, e, 125].toArray⟩ 0 0 0 i1 ((0 : Nat) : Int) (.seq1 (.rep ((e : Int) - 48) (some ((e : Int) - 48)) false (.grp none (.seq2 (ra c 1) (ra f 1))) 1 1)) ∧ Rest ⟨[40, 63, 58, 97, 123, c, 125, 97, 123, f, 125, 41, 123, e, 125].toArray⟩ i1 [] := by
  have r0 := rest0 (l := [40, 63, 58, 97, 123, c, 125, 97, 123, f, 125, 41, 123, e, 125]) (by simp)
  have r3 : Rest ⟨[40, 63, 58, 97, 123, c, 125, 97, 123, f, 125, 41, 123, e, 125].toArray⟩ (0 + 1 + 2) [97, 123, c, 125, 97, 123, f, 125, 41, 123, e, 125] := r0.next.next.next
  have r5 := r3.next.next.next.next
  have r7 := r5.next.next.next.next
  have r8 := r7.next
  have r11 := r8.next.next.next
  have A := disj (w := w) r7 (nbar _ (by simp)) (by decide) (alt2 (d := 1) r3 r5 r7 (by decide) (isEnd97 _) (isEnd97 _) (isEnd41 _) (ta (g := 0) r3 (q1 r3.next dc) r5 (by simp)) (ta r5 (q1 r5.next df) r7 (by simp)))
  have G := atom_g r0 (by decide) (within0 r7 (by decide) A)
  exact ⟨_, (disj r11 (nbar _ (by decide)) (by decide) (alt1 r0 r11 (by decide) (isEnd40 _) isEnd0 (tg (by decide) r0 (.inr ⟨by decide, by decide⟩) G r8 de (by simp)))).mono (by decide), r11⟩
theorem sh8 {c e : Nat} (dc : Dig c) (de : Dig e) : ∃ i1, RSpec w 507 40 ⟨[40, 97, 123, c, 125, 41, 123, e, 125].toArray⟩ 0 0 0 i1 ((1 : Nat) : Int) (.seq1 (.rep ((e : Int) - 48) (some ((e : Int) - 48)) false (.grp (some 1) (.seq1 (ra c 2))) 1 2)) ∧ Rest ⟨[40, 97, 123, c, 125, 41, 123, e, 125].toArray⟩ i1 [] := by
  have r0 := rest0 (l := [40, 97, 123, c, 125, 41, 123, e, 125]) (by simp)
  have r3 := r0.next
  have r7 := r3.next.next.next.next
  have r8 := r7.next
  have r11 := r8.next.next.next
  have A := disj (w := w) r7 (nbar _ (by simp)) (by decide) (alt1 (d := 1) r3 r7 (by decide) (isEnd97 _) (isEnd41 _) (ta (g := 0 + 1) r3 (q1 r3.next dc) r7 (by simp)))
  have G := atom_gn r0 (by decide) (within0 r7 (by decide) A)
  exact ⟨_, (disj r11 (nbar _ (by decide)) (by decide) (alt1 r0 r11 (by decide) (isEnd40 _) isEnd0 (tg (by decide) r0 (.inl (by decide)) G r8 de (by simp)))).mono (by decide), r11⟩
end
theorem off22 : True := trivial
section
noncomputable abbrev Res : Type := Option (Int × List (Option (Int × Int)))
noncomputable abbrev rc (m : Nat) (lz : Bool) : Tr := .rep (m : Int) (some (m : Int)) lz .chr 1 1
noncomputable abbrev S1 (m n : Nat) : Tr := .seq2 (rc m false) (rc n false)
noncomputable abbrev S1z (m n : Nat) : Tr := .seq2 (rc m true) (rc n false)
noncomputable abbrev S2 (c : Nat) : Tr := .seq1 (rc c false)
noncomputable abbrev S3 (m n : Nat) : Tr := .seq1 (.rep (n : Int) (some (n : Int)) false (.grp none (.seq1 (rc m false))) 1 1)
noncomputable abbrev S4 (m n k : Nat) : Tr := .seq1 (.rep (k : Int) (some (k : Int)) false (.grp none (.seq2 (rc m false) (rc n false))) 1 1)
noncomputable abbrev S6 (m f k : Nat) (z : Bool) : Tr := .seq2 (.rep (m : Int) (some (f : Int)) z .chr 1 1) (rc k false)
noncomputable abbrev S7 (m k : Nat) (z : Bool) : Tr := .seq2 (.rep (m : Int) none z .chr 1 1) (rc k false)
noncomputable abbrev S8 (m n : Nat) : Tr := .seq1 (.rep (n : Int) (some (n : Int)) false (.grp (some 1) (.seq1 (.rep (m : Int) (some (m : Int)) false .chr 2 2))) 1 2)
noncomputable abbrev runT (T : Tr) (z kn cnt : Nat) : Option Res := runP ((cmp 0 0 T).1 ++ [.met]) (z : Int) 400 ⟨0, 0, List.replicate cnt none, List.replicate kn (.pair 0 0) ++ List.replicate (cnt + 1) (.at 0)⟩ []
noncomputable def ex (c z : Nat) : Res := if (c : Int) ≤ (z : Int) then some ((c : Int), []) else none
noncomputable abbrev lzI (lz : Bool) (a b : Int) : Int := if lz = true then a else b
noncomputable def ex6 (m n k z : Nat) (lz : Bool) : Res := if (z : Int) ≥ (m : Int) + k then some (lzI lz (m : Int) (min ((m : Int) + n) ((z : Int) - k)) + k, []) else none
noncomputable def ex7 (m k z : Nat) (lz : Bool) : Res := if (z : Int) ≥ (m : Int) + k then some (lzI lz (m : Int) ((z : Int) - k) + k, []) else none
noncomputable def ex8 (m n z : Nat) : Res := if (m : Int) * n ≤ (z : Int) then some ((m : Int) * n, [if (n : Int) > 0 then some ((m : Int) * (n - 1), (m : Int) * n) else none]) else none
noncomputable def okR (a : Option Res) (b : Res) : Bool := match a with | some r => decide (r = b) | none => false
theorem okR_eq {a : Option Res} {b : Res} (h : okR a b = true) : a = some b := by
  cases a with
  | none => cases h
  | some r => exact congrArg some (of_decide_eq_true h)
theorem r1 : ∀ m < 4, ∀ n < 4, ∀ z < 11, okR (runT (S1 m n) z 2 0) (ex (m + n) z) = true := by decide +kernel
theorem r1z : ∀ m < 4, ∀ n < 4, ∀ z < 11, okR (runT (S1z m n) z 2 0) (ex (m + n) z) = true := by decide +kernel
theorem r2 : ∀ c < 10, ∀ z < 11, okR (runT (S2 c) z 1 0) (ex c z) = true := by decide +kernel
theorem r3 : ∀ m < 4, ∀ n < 4, ∀ z < 11, okR (runT (S3 m n) z 2 0) (ex (m * n) z) = true := by decide +kernel
theorem r4 : ∀ m < 4, ∀ n < 4, ∀ k < 4, ∀ z < 11, okR (runT (S4 m n k) z 3 0) (ex ((m + n) * k) z) = true := by decide +kernel
theorem r6 : ∀ m < 4, ∀ n < 4, ∀ k < 4, ∀ z < 11, ∀ lz : Bool, okR (runT (S6 m (m + n) k lz) z 2 0) (ex6 m n k z lz) = true := by decide +kernel
theorem r7 : ∀ m < 4, ∀ k < 4, ∀ z < 11, ∀ lz : Bool, okR (runT (S7 m k lz) z 2 0) (ex7 m k z lz) = true := by decide +kernel
theorem r8 : ∀ m < 4, ∀ n < 4, ∀ z < 11, okR (runT (S8 m n) z 2 1) (ex8 m n z) = true := by decide +kernel
end
section
noncomputable def lawSt : Stmt := (PySem.Challenge.rw_sz0083_01.row.prog.main.body[82]?).getD (.Pass ⟨0, 0, 0, 0⟩)
noncomputable def lawBody : List Stmt := match lawSt with | .FunctionDef _ _ b _ _ _ _ _ _ _ => b | _ => []
noncomputable def lawScope : Scope := match lawSt with | .FunctionDef _ _ _ _ _ _ s _ _ _ => s | _ => { kind := .module, names := [], isGenerator := false, isCoroutine := false }
noncomputable def lawS (i : Nat) : Stmt := (lawBody[i]?).getD (.Pass ⟨0, 0, 0, 0⟩)
theorem len_list {x : Str} : x.length = x.cps.toList.length := by simp [PySem.Str.length]
theorem tx_ok {x : Str} {n : Nat} {tl : List Nat} (hx : x.cps.toList = List.replicate n 97 ++ tl) (ht : tl = [] ∨ ∃ r, tl = 98 :: r) (hl : n + tl.length ≤ 1000) : TxOk x (n : Int) := by
  have hz : x.length = n + tl.length := by rw [len_list, hx, List.length_append, List.length_replicate]
  refine ⟨by omega, by omega, by omega, fun i h0 h1 => ?_, fun h => ?_⟩
  · rw [← Array.getElem?_toList, hx, List.getElem?_append_left (by rw [List.length_replicate]; omega), List.getElem?_replicate, if_pos (by omega)]
  · rw [← Array.getElem?_toList, hx, Int.toNat_natCast, List.getElem?_append_right (by rw [List.length_replicate]; omega), List.length_replicate, Nat.sub_self]
    rcases ht with e | ⟨r, e⟩
    · subst e; simp at hz; omega
    · subst e; rfl
theorem mul_list (k : Int) : (Txt.mul (Str.ofString "a") k).cps.toList = List.replicate k.toNat 97 := by
  have e : Str.ofString "a" = ⟨#[97]⟩ := by decide
  rw [e]; exact mul_one_list 97 k
theorem mul_len {k : Int} (h : k < 11) : (Txt.mul (Str.ofString "a") k).length ≤ 100 := by
  rw [len_list, mul_list, List.length_replicate]; omega
theorem mul_len3 {k : Int} : (Txt.mul (Str.ofString "a") (k.fmod 3)).length ≤ 100 := mul_len (by have := Int.fmod_lt_of_pos k (show (0 : Int) < 3 by decide); omega)
theorem app_len {x y : Str} (h : x.length + y.length ≤ (x ++ y).length ∧ (x ++ y).length ≤ x.length + y.length) (hx : x.length ≤ 100) (hy : y.length ≤ 100) : (x ++ y).length ≤ 200 := by omega
theorem app_list {x y : Str} : (x ++ y).cps.toList = x.cps.toList ++ y.cps.toList := by rw [PySem.Str.cps_append, Array.toList_append]
theorem tx1 {size : Int} (h : 0 ≤ size ∧ size < 11) (k : Int) : TxOk (Txt.mul (Str.ofString "a") size ++ (Str.ofString "b" ++ Txt.mul (Str.ofString "a") (k.fmod 3))) size := by
  have b : (Str.ofString "b").cps.toList = [98] := by decide
  have e := Int.toNat_of_nonneg h.1
  have := tx_ok (x := Txt.mul (Str.ofString "a") size ++ (Str.ofString "b" ++ Txt.mul (Str.ofString "a") (k.fmod 3))) (n := size.toNat) (tl := 98 :: List.replicate (k.fmod 3).toNat 97) (by rw [app_list, app_list, mul_list, mul_list, b]; rfl) (.inr ⟨_, rfl⟩) (by
    have := Int.fmod_lt_of_pos k (show (0 : Int) < 3 by decide)
    rw [List.length_cons, List.length_replicate]; omega)
  rwa [e] at this
theorem tx2 {size : Int} (h : 0 ≤ size ∧ size < 11) : TxOk (Txt.mul (Str.ofString "a") size ++ Str.ofString "") size := by
  have b : (Str.ofString "").cps.toList = [] := by decide
  have e := Int.toNat_of_nonneg h.1
  have := tx_ok (x := Txt.mul (Str.ofString "a") size ++ Str.ofString "") (n := size.toNat) (tl := []) (by rw [app_list, mul_list, b]) (.inl rfl) (by simp; omega)
  rwa [e] at this
noncomputable abbrev M0 (one two three size : Int) (t1 t2 t3 t4 : Tok) (D : Addr) (ml : Str → Option Value) : Str → Option Value := fun y => if y = Str.ofString "size" then some (.int size t4) else if y = Str.ofString "three" then some (.int three t3) else if y = Str.ofString "two" then some (.int two t2) else if y = Str.ofString "one" then some (.int one t1) else if y = Str.ofString "cells" then some (.ref D) else ml y
section
local macro_rules | `(tactic| kt_len) => `(tactic| k_extra "w kt_len")
theorem s3_c {one two three size : Int} {t1 t2 t3 t4 : Tok} {D : Addr} {ml : Str → Option Value} {st : Stmt} {ws : List Value} {ns : List Int} {cp : Nat} {Q : Flow → Shared → Prop} (hcs : cs = lawScope) (hst : st = lawS 2) (hz : 0 ≤ size ∧ size < 11)
    (B : Below A₀ base outer h₀) (F : Fr h₀ L s.heap (M0 one two three size t1 t2 t3 t4 D ml)) (X : (kk.heap_1 w.params).In h₀) (T : Top p loose mean mg mb h₀) (hd : dp + 180 < recursionLimit) (hu : un + 1440 < cLine)
    (N : News h₀ L s.heap news) (hD : (D, listOf ws.toArray cp) ∈ news) (hI : IntsAre ws ns) (hl : ns.length = 5)
    (ret : ∀ h' tk tx t, TxOk tx size → Fr h₀ L h' (fun y => if y = Str.ofString "text" then some (.str tx t) else M0 one two three size t1 t2 t3 t4 D ml y) → News h₀ L h' news → Q .next { s with heap := h', toks := tk }) :
    wpAny (model PySem.Challenge.rw_sz0083_01.row.prog w) (ktrTop dp un gd cn cs L a ccd cl outer) (exec st (envX cn cs L a ccd cl)) Q E s := by
  k_with "w kt_len" => ((fail_if_success (have z9 := @off25)); first | assumption | exact mul_len3 | exact app_len (by assumption) (by decide) mul_len3 | exact mul_len (by omega) | exact (show (Str.ofString "b").length ≤ 100 by decide) | exact (show (Str.ofString "").length ≤ 100 by decide))
  have hl2 : ws.length = 5 := by rw [hI.length]; exact hl
  conv at hcs => rhs; whnf
  subst hcs
  conv at hst => rhs; whnf
  subst hst
  k_steps
  all_goals (refine' ret _ _ _ _ ?_ (by k_asm) (by k_asm); first | exact tx1 hz _ | exact tx2 hz)
end
theorem off25 : True := trivial
end
section
theorem str_addL {prog : Program} {A : Around} {x y : Str} {t u : Tok} {l1 l2 l3 : List Nat} (hx : x = ⟨l1.toArray⟩) (hy : y = ⟨l2.toArray⟩) (hc : l1 ++ l2 = l3) (h1 : l1.length ≤ 500) (h2 : l2.length ≤ 500) (h : ∀ t' k, Q (.str ⟨l3.toArray⟩ t') { s with toks := k }) : wpAny (model prog w) A (binaryOp .Add (.str x t) (.str y u)) Q E s := by
  subst hx hy hc
  refine KXadd.add (K := 500) (L := 500) (by simpa [PySem.Str.length] using h1) (by simpa [PySem.Str.length] using h2) (by decide) fun t' k _ => ?_
  have e : (⟨l1.toArray⟩ : Str) ++ ⟨l2.toArray⟩ = ⟨(l1 ++ l2).toArray⟩ := PySem.Str.ext' (by rw [PySem.Str.cps_append]; simp)
  rw [e]; exact h t' k
theorem dig_str : ∀ n < 10, (toString ((n : Nat) : Int)) = String.ofList [Char.ofNat (48 + n)] := by decide
theorem dig_str2 {n : Nat} (h : n < 10) : Str.ofString (toString ((n : Nat) : Int)) = ⟨[48 + n].toArray⟩ := by
  rw [dig_str n h, Fast.ofString_ofList]
  have : ∀ n < 10, (Char.ofNat (48 + n)).toNat = 48 + n := by decide
  simp [this n h]
theorem str_dig {prog : Program} {A : Around} {k : Int} {n : Nat} {u : Tok} (e : k = (n : Int)) (hn : n < 10) (h : ∀ t j, Q (.str ⟨[48 + n].toArray⟩ t) { s with toks := j }) : wpAny (model prog w) A (call (.type "str") [.int k u]) Q E s := by
  subst e
  refine P.str_of_int ?_ ?_
  · have : ((n : Nat) : Int).natAbs.log2 ≤ ((n : Nat) : Int).natAbs := Nat.log2_le_self _
    have : ((n : Nat) : Int).natAbs = n := Int.natAbs_natCast n
    omega
  · have h' := h s.toks (s.toks + 1)
    rw [← dig_str2 hn] at h'
    exact h'
theorem lit_o : Str.ofString "{" = ⟨[123].toArray⟩ := by decide
theorem lit_c : Str.ofString "}" = ⟨[125].toArray⟩ := by decide
theorem lit_e : Str.ofString "" = ⟨([] : List Nat).toArray⟩ := by decide
theorem lit_q : Str.ofString "?" = ⟨[63].toArray⟩ := by decide
theorem lit_a : Str.ofString "a" = ⟨[97].toArray⟩ := by decide
theorem lit_ao : Str.ofString "a{" = ⟨[97, 123].toArray⟩ := by decide
theorem lit_ga : Str.ofString "(?:a" = ⟨[40, 63, 58, 97].toArray⟩ := by decide
theorem lit_pa : Str.ofString "(a" = ⟨[40, 97].toArray⟩ := by decide
theorem lit_p : Str.ofString ")" = ⟨[41].toArray⟩ := by decide
theorem lit_k : Str.ofString "," = ⟨[44].toArray⟩ := by decide
theorem lit_kc : Str.ofString ",}" = ⟨[44, 125].toArray⟩ := by decide
theorem lst_atE {prog : Program} {A : Around} {value slice : PySem.Expr} {t : Addr} {its : Array Value} {c : Nat} {k j : Int} {u : Tok} {x : Value} (e : k = j) (N : News h₀ L s.heap news) (hm : (t, listOf its c) ∈ news) (h0 : 0 ≤ j) (hf : j < 1000) (hx : its.toList[j.toNat]? = some x) (h : Q x s)
    (hs : subscripted slice false (.ref t) (.int k u) = operate [.ref t, .int k u] (getItem (.ref t) (.int k u)) := by with_unfolding_all rfl) :
    wpAny (model prog w) A (subscriptTail value slice (.ref t) (.int k u)) Q E s := by
  subst e
  exact lst_at N hm h0 hf hx h hs
theorem fmod2 (k : Int) : k.fmod 2 = 0 ∨ k.fmod 2 = 1 := by
  have := Int.fmod_lt_of_pos k (show (0 : Int) < 2 by decide)
  have := Int.fmod_nonneg_of_pos k (show (0 : Int) < 2 by decide)
  omega
local macro_rules | `(tactic| kt_le) => `(tactic| k_extra "w kt_le")
section
noncomputable def lzl : Bool → List Nat
  | true => [63]
  | false => []
noncomputable abbrev M1 (m3 : Str → Option Value) (mo no ko : Nat) (lv : Str) (t5 t6 t7 t8 : Tok) : Str → Option Value := fun y => if y = Str.ofString "lazy" then some (.str lv t8) else if y = Str.ofString "k" then some (.str ⟨[123, 48 + ko, 125].toArray⟩ t7) else if y = Str.ofString "n" then some (.str ⟨[123, 48 + no, 125].toArray⟩ t6) else if y = Str.ofString "m" then some (.str ⟨[123, 48 + mo, 125].toArray⟩ t5) else m3 y
theorem s4_c {mo no ko : Nat} {size : Int} {t1 t2 t3 t4 tt : Tok} {tx : Str} {D : Addr} {ml : Str → Option Value} {st : Stmt} {ws : List Value} {ns : List Int} {cp : Nat} {Q : Flow → Shared → Prop} (hcs : cs = lawScope) (hst : st = lawS 3) (hmo : mo < 4) (hno : no < 4) (hko : ko < 4)
    (B : Below A₀ base outer h₀) (F : Fr h₀ L s.heap (fun y => if y = Str.ofString "text" then some (.str tx tt) else M0 mo no ko size t1 t2 t3 t4 D ml y)) (X : (kk.heap_1 w.params).In h₀) (T : Top p loose mean mg mb h₀) (hd : dp + 180 < recursionLimit) (hu : un + 1440 < cLine)
    (N : News h₀ L s.heap news) (hD : (D, listOf ws.toArray cp) ∈ news) (hI : IntsAre ws ns) (hl : ns.length = 5)
    (ret : ∀ h' tk lz lv t5 t6 t7 t8, lv = ⟨(lzl lz).toArray⟩ → Fr h₀ L h' (M1 (fun y => if y = Str.ofString "text" then some (.str tx tt) else M0 mo no ko size t1 t2 t3 t4 D ml y) mo no ko lv t5 t6 t7 t8) → News h₀ L h' news → Q .next { s with heap := h', toks := tk }) :
    wpAny (model PySem.Challenge.rw_sz0083_01.row.prog w) (ktrTop dp un gd cn cs L a ccd cl outer) (exec st (envX cn cs L a ccd cl)) Q E s := by
  k_with "w kt_le" => (first | with_reducible exact lit_o | with_reducible exact lit_c | with_reducible exact lit_e | with_reducible exact lit_q | with_reducible exact lit_a | with_reducible exact lit_ao | with_reducible exact lit_ga | with_reducible exact lit_pa | with_reducible exact lit_p | with_reducible exact lit_k | with_reducible exact lit_kc | with_reducible assumption | with_reducible rfl)
  k_with "m binaryOp Add str str" => ((k_here; (with_reducible show wpAny _ _ (binaryOp Operator.Add (Value.str _ _) (Value.str _ _)) _ _ _); (refine' str_addL ?hx ?hy ?hc ?h1 ?h2 ?_); k_dflt ((case hx => kt_le); (case hy => kt_le); (case hc => ((try simp only [List.cons_append, List.nil_append, List.append_assoc]); exact rfl)); (case h1 => kwd_inv); (case h2 => kwd_inv)); intro _ _; (try dsimp only)))
  k_with "m call type:str" => ((k_here; (with_reducible show wpAny _ _ (call (Value.type "str") [Value.int _ _]) _ _ _); k_dflt (refine' str_dig ?e ?hn ?_; (case e => first | with_reducible rfl | exact (Int.natCast_add _ _).symm | exact (Int.natCast_mul _ _).symm); (case hn => omega)); intro _ _; (try dsimp only)))
  k_with "m subscriptTail List cons BinOp ref int" => ((fail_if_success (have z9 := @off27)); (k_here; k_dflt (refine' lst_atE ?e ?N ?hm ?h0 ?hf ?hx ?_ ?hs; (case N => k_asm); (case hm => k_mem); (case e => assumption); (case h0 => decide); (case hf => decide); (case hx => exact rfl); (case hs => with_unfolding_all rfl)); k_whole))
  have hl2 : ws.length = 5 := by rw [hI.length]; exact hl
  have h4 := fmod2 (ns.getD (Int.toNat 4) 0)
  conv at hcs => rhs; whnf
  subst hcs
  conv at hst => rhs; whnf
  subst hst
  rcases h4 with h4 | h4
  · k_steps
    exact ret _ _ false _ _ _ _ _ lit_e (by k_asm) (News_drop (News_drop (by k_asm)))
  · k_steps
    exact ret _ _ true _ _ _ _ _ lit_q (by k_asm) (News_drop (News_drop (by k_asm)))
end
theorem off27 : True := trivial
section
/-- what `_law_end` answers for a pattern's text and a text -/
noncomputable def EndSpec (w : World) (src tx : Str) (r : Res) : Prop :=
  ∀ (p : Program) (loose : List Str) (mean : ExcName → Option Value) (mg mb : Str → Option Value) (dp un : Nat) (gd : Option (List Code)) (cn : Str) (cs : Scope) (L a : Addr) (ccd : Value) (cl : List (Str × Addr)) (outer : List Env) (A₀ : Around) (base h₀ : Heap) (m : Str → Option Value) (s : Shared) (Q E : Value → Shared → Prop) (news : List (Addr × Obj)) (t1 t2 : Tok),
    Below A₀ base outer h₀ → Fr h₀ L s.heap m → (kk.heap_1 w.params).In h₀ → Top p loose mean mg mb h₀ → cs.kind = .function → dp + 180 < recursionLimit → un + 1440 < cLine → News h₀ L s.heap news →
    (∀ h' tk v tl, Fr h₀ L h' m → News h₀ L h' (news ++ tl) → MatchIn (news ++ tl) v r → Q v { s with heap := h', toks := tk }) →
    wpAny (model PySem.Challenge.rw_sz0083_01.row.prog w) (ktrTop dp un gd cn cs L a ccd cl outer) (call (.ref 661) [.str src t1, .str tx t2]) Q E s
theorem end_spec {src tx : Str} {T1 : Tr} {z kn cnt : Nat} {r : Res} (h : ∃ i1, RSpec w 507 40 src 0 0 0 i1 ((cnt : Nat) : Int) T1 ∧ Rest src i1 []) (ht : T1.ht ≤ 8) (hkn : (cmp 0 0 T1).2 = ((kn : Nat) : Int)) (hz : (cmp 0 0 T1).1.length < 800) (hkn2 : kn ≤ 10) (hcn2 : cnt ≤ 10)
    (hT : TxOk tx (z : Int)) (hr : runT T1 z kn cnt = some r) (hgl : ∀ pos gs, r = Option.some (pos, gs) → gs.length ≤ 100) : EndSpec w src tx r := by
  obtain ⟨i1, S1, hs1⟩ := h
  intro p loose mean mg mb dp un gd cn cs L a ccd cl outer A₀ base h₀ m s Q E news t1 t2 B F X T hk hd hu N ret
  exact end_c S1 hs1 (by decide) (by decide) ht hkn hz hT hkn2 hcn2 (by decide) hr hgl B F X T hk hd hu N ret
theorem dg {n : Nat} (h : n < 10) : Dig (48 + n) := decide_eq_true (by omega)
theorem sub48 (n : Nat) : ((48 + n : Nat) : Int) - 48 = (n : Int) := by omega
noncomputable def exI (c z : Int) : Res := if c ≤ z then some (c, []) else none
theorem exI_len {c z : Int} : ∀ pos gs, exI c z = Option.some (pos, gs) → gs.length ≤ 100 := fun pos gs h => by
  unfold exI at h
  split at h
  · cases h; decide
  · cases h
theorem ex_exI (c z : Nat) : ex c z = exI (c : Int) (z : Int) := rfl
variable {tx : Str} {mo no ko z : Nat}
theorem e1 (h1 : mo < 4) (h2 : no < 4) (hz : z < 11) (hT : TxOk tx (z : Int)) : EndSpec w ⟨[97, 123, 48 + mo, 125, 97, 123, 48 + no, 125].toArray⟩ tx (exI ((mo : Int) + no) z) := by
  have h := sh1 (w := w) (dg (n := mo) (by omega)) (dg (n := no) (by omega))
  simp only [ra, sub48] at h
  rw [← Int.natCast_add, ← ex_exI]
  exact end_spec h (by simp [Tr.ht]) (kn := 2) rfl (Nat.le_of_ble_eq_true rfl) (by decide) (by decide) hT (okR_eq (r1 mo h1 no h2 z hz)) exI_len
theorem e1z (h1 : mo < 4) (h2 : no < 4) (hz : z < 11) (hT : TxOk tx (z : Int)) : EndSpec w ⟨[97, 123, 48 + mo, 125, 63, 97, 123, 48 + no, 125].toArray⟩ tx (exI ((mo : Int) + no) z) := by
  have h := sh1z (w := w) (dg (n := mo) (by omega)) (dg (n := no) (by omega))
  simp only [ra, sub48] at h
  rw [← Int.natCast_add, ← ex_exI]
  exact end_spec h (by simp [Tr.ht]) (kn := 2) rfl (Nat.le_of_ble_eq_true rfl) (by decide) (by decide) hT (okR_eq (r1z mo h1 no h2 z hz)) exI_len
theorem e2 {c : Nat} (h1 : c < 10) (hz : z < 11) (hT : TxOk tx (z : Int)) : EndSpec w ⟨[97, 123, 48 + c, 125].toArray⟩ tx (exI (c : Int) z) := by
  have h := sh2 (w := w) (dg (n := c) h1)
  simp only [ra, sub48] at h
  rw [← ex_exI]
  exact end_spec h (by simp [Tr.ht]) (kn := 1) rfl (Nat.le_of_ble_eq_true rfl) (by decide) (by decide) hT (okR_eq (r2 c h1 z hz)) exI_len
theorem e3 (h1 : mo < 4) (h2 : no < 4) (hz : z < 11) (hT : TxOk tx (z : Int)) : EndSpec w ⟨[40, 63, 58, 97, 123, 48 + mo, 125, 41, 123, 48 + no, 125].toArray⟩ tx (exI ((mo : Int) * no) z) := by
  have h := sh3 (w := w) (dg (n := mo) (by omega)) (dg (n := no) (by omega))
  simp only [ra, sub48] at h
  rw [← Int.natCast_mul, ← ex_exI]
  exact end_spec h (by simp [Tr.ht]) (kn := 2) rfl (Nat.le_of_ble_eq_true rfl) (by decide) (by decide) hT (okR_eq (r3 mo h1 no h2 z hz)) exI_len
theorem e4 (h1 : mo < 4) (h2 : no < 4) (h3 : ko < 4) (hz : z < 11) (hT : TxOk tx (z : Int)) : EndSpec w ⟨[40, 63, 58, 97, 123, 48 + mo, 125, 97, 123, 48 + no, 125, 41, 123, 48 + ko, 125].toArray⟩ tx (exI (((mo : Int) + no) * ko) z) := by
  have h := sh4 (w := w) (dg (n := mo) (by omega)) (dg (n := no) (by omega)) (dg (n := ko) (by omega))
  simp only [ra, sub48] at h
  rw [← Int.natCast_add, ← Int.natCast_mul, ← ex_exI]
  exact end_spec h (by simp [Tr.ht]) (kn := 3) rfl (Nat.le_of_ble_eq_true rfl) (by decide) (by decide) hT (okR_eq (r4 mo h1 no h2 ko h3 z hz)) exI_len
theorem ex6_len {lz : Bool} : ∀ pos gs, ex6 mo no ko z lz = Option.some (pos, gs) → gs.length ≤ 100 := fun pos gs h => by
  unfold ex6 at h
  split at h
  · cases h; decide
  · cases h
theorem ex7_len {lz : Bool} : ∀ pos gs, ex7 mo ko z lz = Option.some (pos, gs) → gs.length ≤ 100 := fun pos gs h => by
  unfold ex7 at h
  split at h
  · cases h; decide
  · cases h
theorem ex8_len : ∀ pos gs, ex8 mo no z = Option.some (pos, gs) → gs.length ≤ 100 := fun pos gs h => by
  unfold ex8 at h
  split at h
  · cases h; simp
  · cases h
theorem e6 (h1 : mo < 4) (h2 : no < 4) (h3 : ko < 4) (hz : z < 11) (hT : TxOk tx (z : Int)) : EndSpec w ⟨[97, 123, 48 + mo, 44, 48 + (mo + no), 125, 97, 123, 48 + ko, 125].toArray⟩ tx (ex6 mo no ko z false) := by
  have h := sh6 (w := w) (dg (n := mo) (by omega)) (dg (n := mo + no) (by omega)) (by omega) (dg (n := ko) (by omega))
  simp only [ra, sub48] at h
  exact end_spec h (by simp [Tr.ht]) (kn := 2) rfl (Nat.le_of_ble_eq_true rfl) (by decide) (by decide) hT (okR_eq (r6 mo h1 no h2 ko h3 z hz false)) ex6_len
theorem e6z (h1 : mo < 4) (h2 : no < 4) (h3 : ko < 4) (hz : z < 11) (hT : TxOk tx (z : Int)) : EndSpec w ⟨[97, 123, 48 + mo, 44, 48 + (mo + no), 125, 63, 97, 123, 48 + ko, 125].toArray⟩ tx (ex6 mo no ko z true) := by
  have h := sh6z (w := w) (dg (n := mo) (by omega)) (dg (n := mo + no) (by omega)) (by omega) (dg (n := ko) (by omega))
  simp only [ra, sub48] at h
  exact end_spec h (by simp [Tr.ht]) (kn := 2) rfl (Nat.le_of_ble_eq_true rfl) (by decide) (by decide) hT (okR_eq (r6 mo h1 no h2 ko h3 z hz true)) ex6_len
theorem e7 (h1 : mo < 4) (h3 : ko < 4) (hz : z < 11) (hT : TxOk tx (z : Int)) : EndSpec w ⟨[97, 123, 48 + mo, 44, 125, 97, 123, 48 + ko, 125].toArray⟩ tx (ex7 mo ko z false) := by
  have h := sh7 (w := w) (dg (n := mo) (by omega)) (dg (n := ko) (by omega))
  simp only [ra, sub48] at h
  exact end_spec h (by simp [Tr.ht]) (kn := 2) rfl (Nat.le_of_ble_eq_true rfl) (by decide) (by decide) hT (okR_eq (r7 mo h1 ko h3 z hz false)) ex7_len
theorem e7z (h1 : mo < 4) (h3 : ko < 4) (hz : z < 11) (hT : TxOk tx (z : Int)) : EndSpec w ⟨[97, 123, 48 + mo, 44, 125, 63, 97, 123, 48 + ko, 125].toArray⟩ tx (ex7 mo ko z true) := by
  have h := sh7z (w := w) (dg (n := mo) (by omega)) (dg (n := ko) (by omega))
  simp only [ra, sub48] at h
  exact end_spec h (by simp [Tr.ht]) (kn := 2) rfl (Nat.le_of_ble_eq_true rfl) (by decide) (by decide) hT (okR_eq (r7 mo h1 ko h3 z hz true)) ex7_len
theorem e8 (h1 : mo < 4) (h2 : no < 4) (hz : z < 11) (hT : TxOk tx (z : Int)) : EndSpec w ⟨[40, 97, 123, 48 + mo, 125, 41, 123, 48 + no, 125].toArray⟩ tx (ex8 mo no z) := by
  have h := sh8 (w := w) (dg (n := mo) (by omega)) (dg (n := no) (by omega))
  simp only [ra, sub48] at h
  exact end_spec h (by simp [Tr.ht]) (kn := 2) rfl (Nat.le_of_ble_eq_true rfl) (by decide) (by decide) hT (okR_eq (r8 mo h1 no h2 z hz)) ex8_len
end
noncomputable def lawIf : Stmt := match lawS 4 with | .For _ _ (b :: _) _ _ => b | _ => .Pass ⟨0, 0, 0, 0⟩
theorem exI_yes {c z : Int} (h : c ≤ z) : exI c z = Option.some (c, []) := if_pos h
theorem exI_no {c z : Int} (h : ¬ c ≤ z) : exI c z = Option.none := if_neg h
theorem all_nil {R : List (Addr × Obj)} {gv : List Value} (h : AllIn (GrpIn R) gv []) : gv = [] := by cases h; rfl
theorem EndSpec.use {src tx : Str} {r : Res} {t1 t2 : Tok} (S : EndSpec w src tx r) (B : Below A₀ base outer h₀) (F : Fr h₀ L s.heap m) (X : (kk.heap_1 w.params).In h₀) (T : Top p loose mean mg mb h₀) (hk : cs.kind = .function) (hd : dp + 180 < recursionLimit) (hu : un + 1440 < cLine) (N : News h₀ L s.heap news)
    (ret : ∀ h' tk v tl, Fr h₀ L h' m → News h₀ L h' (news ++ tl) → MatchIn (news ++ tl) v r → Q v { s with heap := h', toks := tk }) :
    wpAny (model PySem.Challenge.rw_sz0083_01.row.prog w) (ktrTop dp un gd cn cs L a ccd cl outer) (call (.ref 661) [.str src t1, .str tx t2]) Q E s := S _ _ _ _ _ _ _ _ _ _ _ _ _ _ _ _ _ _ _ _ _ _ _ _ _ B F X T hk hd hu N ret
theorem EndSpec.use1 {src tx : Str} {r : Res} {pos : Int} {t1 t2 : Tok}
    (B : Below A₀ base outer h₀) (F : Fr h₀ L s.heap m) (X : (kk.heap_1 w.params).In h₀) (T : Top p loose mean mg mb h₀) (hk : cs.kind = .function) (hd : dp + 180 < recursionLimit) (hu : un + 1440 < cLine) (N : News h₀ L s.heap news) (S : EndSpec w src tx r) (hr : r = Option.some (pos, [])) (ret : ∀ h' tk y g c t, Fr h₀ L h' m → News h₀ L h' ((y, tup [.int pos t, .ref g]) :: (g, listOf #[] c) :: news) → Q (.ref y) { s with heap := h', toks := tk }) :
    wpAny (model PySem.Challenge.rw_sz0083_01.row.prog w) (ktrTop dp un gd cn cs L a ccd cl outer) (call (.ref 661) [.str src t1, .str tx t2]) Q E s := by
  subst hr
  refine S.use B F X T hk hd hu N fun h' tk v tl F' N' R' => ?_
  obtain ⟨y', g', c', t', gv', e', hy', hg', hgs'⟩ := MatchIn.some_ref R'
  have := all_nil hgs'
  subst this e'
  exact ret h' tk y' g' c' t' F' (News_sub N' (List.forall_mem_cons.mpr ⟨hy', List.forall_mem_cons.mpr ⟨hg', fun q hq => List.mem_append_left _ hq⟩⟩))
theorem EndSpec.use0 {src tx : Str} {r : Res} {t1 t2 : Tok}
    (B : Below A₀ base outer h₀) (F : Fr h₀ L s.heap m) (X : (kk.heap_1 w.params).In h₀) (T : Top p loose mean mg mb h₀) (hk : cs.kind = .function) (hd : dp + 180 < recursionLimit) (hu : un + 1440 < cLine) (N : News h₀ L s.heap news) (S : EndSpec w src tx r) (hr : r = Option.none) (ret : ∀ h' tk, Fr h₀ L h' m → News h₀ L h' news → Q .none { s with heap := h', toks := tk }) :
    wpAny (model PySem.Challenge.rw_sz0083_01.row.prog w) (ktrTop dp un gd cn cs L a ccd cl outer) (call (.ref 661) [.str src t1, .str tx t2]) Q E s := by
  subst hr
  refine S.use B F X T hk hd hu N fun h' tk v tl F' N' R' => ?_
  have := MatchIn.none_eq R'
  subst this
  exact ret h' tk F' (News_sub N' fun q hq => List.mem_append_left _ hq)
noncomputable abbrev M2 (mm : Str → Option Value) (src : Str) (c : Int) (t1 t2 : Tok) : Str → Option Value := fun y => if y = Str.ofString "count" then some (.int c t2) else if y = Str.ofString "source" then some (.str src t1) else mm y
theorem if_c {src tx : Str} {c size : Int} {t1 t2 t3 t4 : Tok} {mm : Str → Option Value} {st : Stmt} {Q : Flow → Shared → Prop} (S : EndSpec w src tx (exI c size)) (hcs : cs = lawScope) (hst : st = lawIf) (hm1 : mm (Str.ofString "text") = some (.str tx t3)) (hm2 : mm (Str.ofString "size") = some (.int size t4)) (hb : 0 ≤ c ∧ c < 100) (hb2 : 0 ≤ size ∧ size < 100)
    (B : Below A₀ base outer h₀) (F : Fr h₀ L s.heap (M2 mm src c t1 t2)) (X : (kk.heap_1 w.params).In h₀) (T : Top p loose mean mg mb h₀) (hd : dp + 180 < recursionLimit) (hu : un + 1440 < cLine)
    (N : News h₀ L s.heap news)
    (ret : ∀ h' tk, Fr h₀ L h' (M2 mm src c t1 t2) → News h₀ L h' news → Q .next { s with heap := h', toks := tk }) :
    wpAny (model PySem.Challenge.rw_sz0083_01.row.prog w) (ktrTop dp un gd cn cs L a ccd cl outer) (exec st (envX cn cs L a ccd cl)) Q E s := by
  k_with "m call ref" => (first | (k_here; k_dflt (show wpAny _ _ (call (Value.ref 661) _) _ _ _); k_dflt (refine' EndSpec.use0 ?B ?F ?X ?T ?hk ?hd ?hu ?N ?pq1 ?eq2 ?_; k_extra "w kpf_c"; (case N => k_asm); (case pq1 => assumption); (case eq2 => first | assumption | exact exI_no (by assumption) | exact exI_yes (by assumption)); k_extra "w kcf_m"); intro h' tk' F' N'; k_extra "w kbo_bools")| (k_here; k_dflt (show wpAny _ _ (call (Value.ref 661) _) _ _ _); k_dflt (refine' EndSpec.use1 ?B ?F ?X ?T ?hk ?hd ?hu ?N ?pq1 ?eq2 ?_; k_extra "w kpf_c"; (case N => k_asm); (case pq1 => assumption); (case eq2 => first | assumption | exact exI_no (by assumption) | exact exI_yes (by assumption)); k_extra "w kcf_m"); intro h' tk' y' g' c' t' F' N'; k_extra "w kbo_bools")| (k_here; k_dflt (show wpAny _ _ (call (Value.ref 661) _) _ _ _); k_dflt (refine' EndSpec.use2 ?B ?F ?X ?T ?hk ?hd ?hu ?N ?pq1 ?eq2 ?_; k_extra "w kpf_c"; (case N => k_asm); (case pq1 => assumption); (case eq2 => first | assumption | exact exI_no (by assumption) | exact exI_yes (by assumption)); k_extra "w kcf_m"); intro h' tk' y' g' c' t' F' N'; k_extra "w kbo_bools")| (k_here; k_dflt (show wpAny _ _ (call (Value.ref 661) _) _ _ _); k_dflt (refine' EndSpec.use3 ?B ?F ?X ?T ?hk ?hd ?hu ?N ?pq1 ?eq2 ?_; k_extra "w kpf_c"; (case N => k_asm); (case pq1 => assumption); (case eq2 => first | assumption | exact exI_no (by assumption) | exact exI_yes (by assumption)); k_extra "w kcf_m"); intro h' tk' y' g' z' c' t' u' v' F' N'; k_extra "w kbo_bools"))
  k_with "m eval Name" => (k_extra "w kwd_same2")
  conv at hcs => rhs; whnf
  subst hcs
  conv at hst => rhs; whnf
  subst hst
  by_cases hc : c ≤ size
  · k_steps
    all_goals first | k_data | exact ret _ _ (by k_asm) (News_drop (News_drop (News_drop (News_drop (by k_asm)))))
  · k_steps
    all_goals first | k_data | exact ret _ _ (by k_asm) (by k_asm)
section
theorem kw15 : True := by
  k_with "m exec If" => ((fail_if_success (have z9 := @off29)); (k_here; k_dflt (refine' if_c ?S ?hcs ?hst ?hm1 ?hm2 ?hb ?hb2 ?B ?F ?X ?T ?hd ?hu ?N ?_; (case F => k_asm); (case hcs => exact rfl); (case hst => exact rfl); (case hm1 => exact rfl); (case hm2 => exact rfl); (case S => assumption); (case hb => (constructor <;> omega)); (case hb2 => (constructor <;> omega)); k_extra "w kpf_close"); intro h' tk' F' N'; (try k_sweep)))
  k_with "m newTuple" => ((fail_if_success (have z9 := @off29)); (k_here; (with_reducible refine' kup_newTuple ?Fq1 ?Nq2 ?_ ?yq4); k_dflt ((case Fq1 => k_asm); (case Nq2 => k_asm); (case yq4 => first | assumption | decide | kwd_inv)); intro D' h' F' N' l1; k_extra "w kbo_bools"))
  trivial
theorem turn_end {news' keep : List (Addr × Obj)} {I : Addr} {o : Obj} {R : (Str → Option Value) → List (Addr × Obj) → Prop} {h' : Heap} {tk : Nat} (F : Fr h₀ L h' m) (N : News h₀ L h' ((I, o) :: news')) (l : ∀ p ∈ news', p.1 < I) (hk : SubL keep news') (r : R m news') :
    UnrEndW h₀ L s [(I, o)] (fun m' n' => SubL keep n' ∧ R m' n') { s with heap := h', toks := tk } :=
  ⟨h', tk, m, news', rfl, F, N, fun p hp q hq => by rw [List.mem_singleton.mp hq]; exact Nat.ne_of_lt (l p hp), hk, r⟩
theorem kw16 : True := by
  k_with "m pyIter ref" => ((fail_if_success (have z9 := @off29)); (k_here; k_dflt (refine' iter_tupTurns ?hh ?F ?N ?hm ?hc ?hd ?_; (case hh => exact rfl); (case F => k_asm); (case N => k_asm); (case hm => k_mem); (case hc => exact rfl); (case hd => exact rfl)); intro i' l1))
  k_with "m UnrEndW" => ((fail_if_success (have z9 := @off29)); (k_here; k_dflt (refine' turn_end ?F ?N ?l ?hk ?_; (case F => k_asm); (case N => k_asm); (case l => assumption); (case hk => k_subL))))
  k_with "m execs cons" => ((fail_if_success (have z9 := @off29)); (k_here; (with_reducible refine wpAny_execs_cons ?_)))
  trivial
theorem fr_lay {h' : Heap} {m' : Str → Option Value} (F : Fr h₀ L h' m') (e : ∀ y, y ≠ Str.ofString "count" → y ≠ Str.ofString "source" → m' y = m y) :
    Fr h₀ L h' (fun y => if y = Str.ofString "count" then m' (Str.ofString "count") else if y = Str.ofString "source" then m' (Str.ofString "source") else m y) := Fr_eq F fun y => by
  by_cases h1 : y = Str.ofString "count"
  · subst h1; rw [if_pos rfl]
  · rw [if_neg h1]
    by_cases h2 : y = Str.ofString "source"
    · subst h2; rw [if_pos rfl]
    · rw [if_neg h2]; exact e y h1 h2
theorem s5_c {mo no ko z : Nat} {t1 t2 t3 t4 t5 t6 t7 t8 tt : Tok} {tx lv : Str} {lq : List Nat} {D : Addr} {ml : Str → Option Value} {st : Stmt} {Q : Flow → Shared → Prop} (hcs : cs = lawScope) (hst : st = lawS 4) (hmo : mo < 4) (hno : no < 4) (hko : ko < 4) (hz : z < 11) (hlv : lv = ⟨lq.toArray⟩) (hlq : lq.length ≤ 1)
    (E1 : EndSpec w ⟨[97, 123, 48 + mo, 125, 97, 123, 48 + no, 125].toArray⟩ tx (exI ((mo : Int) + no) z))
    (E2 : EndSpec w ⟨[97, 123, 48 + (mo + no), 125].toArray⟩ tx (exI ((mo : Int) + no) z))
    (E3 : EndSpec w ⟨[40, 63, 58, 97, 123, 48 + mo, 125, 41, 123, 48 + no, 125].toArray⟩ tx (exI ((mo : Int) * no) z))
    (E4 : EndSpec w ⟨[97, 123, 48 + (mo * no), 125].toArray⟩ tx (exI ((mo : Int) * no) z))
    (E5 : EndSpec w ⟨[40, 63, 58, 97, 123, 48 + mo, 125, 97, 123, 48 + no, 125, 41, 123, 48 + ko, 125].toArray⟩ tx (exI (((mo : Int) + no) * ko) z))
    (E6 : EndSpec w ⟨(97 :: 123 :: (48 + mo) :: 125 :: (lq ++ [97, 123, 48 + ko, 125])).toArray⟩ tx (exI ((mo : Int) + ko) z))
    (B : Below A₀ base outer h₀) (F : Fr h₀ L s.heap (M1 (fun y => if y = Str.ofString "text" then some (.str tx tt) else M0 mo no ko z t1 t2 t3 t4 D ml y) mo no ko lv t5 t6 t7 t8)) (X : (kk.heap_1 w.params).In h₀) (T : Top p loose mean mg mb h₀) (hd : dp + 180 < recursionLimit) (hu : un + 1440 < cLine)
    (N : News h₀ L s.heap news) (hPE : PassesOwn (model PySem.Challenge.rw_sz0083_01.row.prog w) (ktrTop dp un gd cn cs L a ccd cl outer) (envX cn cs L a ccd cl) E)
    (ret : ∀ h' tk vc vs, Fr h₀ L h' (fun y => if y = Str.ofString "count" then vc else if y = Str.ofString "source" then vs else M1 (fun y => if y = Str.ofString "text" then some (.str tx tt) else M0 mo no ko z t1 t2 t3 t4 D ml y) mo no ko lv t5 t6 t7 t8 y) → News h₀ L h' news → Q .next { s with heap := h', toks := tk }) :
    wpAny (model PySem.Challenge.rw_sz0083_01.row.prog w) (ktrTop dp un gd cn cs L a ccd cl outer) (exec st (envX cn cs L a ccd cl)) Q E s := by
  have m1 : 0 ≤ (mo : Int) * no ∧ (mo : Int) * no < 10 := by
    have : mo * no ≤ 3 * 3 := Nat.mul_le_mul (by omega) (by omega)
    have e : (mo : Int) * no = ((mo * no : Nat) : Int) := (Int.natCast_mul _ _).symm
    rw [e]; omega
  have m2 : 0 ≤ ((mo : Int) + no) * ko ∧ ((mo : Int) + no) * ko < 20 := by
    have : (mo + no) * ko ≤ 6 * 3 := Nat.mul_le_mul (by omega) (by omega)
    have e : ((mo : Int) + no) * ko = (((mo + no) * ko : Nat) : Int) := by rw [Int.natCast_mul, Int.natCast_add]
    rw [e]; omega
  have m3 : mo * no < 10 := by
    have : mo * no ≤ 3 * 3 := Nat.mul_le_mul (by omega) (by omega)
    omega
  conv at hcs => rhs; whnf
  subst hcs
  conv at hst => rhs; whnf
  subst hst
  k_steps
  exact ret _ _ _ _ (fr_lay (by k_asm) (fun y h1 h2 => by simp only [if_neg h1, if_neg h2])) (News_sub (by k_asm) (fun q hq => by (repeat (refine' List.mem_cons_of_mem _ ?_)); assumption))
end
theorem off29 : True := trivial
noncomputable abbrev M3 (vc vs : Option Value) (m1 : Str → Option Value) : Str → Option Value := fun y => if y = Str.ofString "count" then vc else if y = Str.ofString "source" then vs else m1 y
theorem lzI_f {a b : Int} : lzI false a b = b := rfl
theorem lzI_t {a b : Int} : lzI true a b = a := rfl
theorem s6_c {mo no ko z : Nat} {t1 t2 t3 t4 t5 t6 t7 t8 tt : Tok} {tx lv : Str} {D : Addr} {ml : Str → Option Value} {vc vs : Option Value} {st : Stmt} {Q : Flow → Shared → Prop} {lz : Bool} (hcs : cs = lawScope) (hmo : mo < 4) (hno : no < 4) (hko : ko < 4) (hz : z < 11) (hl : (lv = Str.ofString "?" ∧ lz = true) ∨ (lv = Str.ofString "" ∧ lz = false)) (hst : st = lawS 5)
    (B : Below A₀ base outer h₀) (F : Fr h₀ L s.heap (M3 vc vs (M1 (fun y => if y = Str.ofString "text" then some (.str tx tt) else M0 mo no ko z t1 t2 t3 t4 D ml y) mo no ko lv t5 t6 t7 t8))) (X : (kk.heap_1 w.params).In h₀) (T : Top p loose mean mg mb h₀) (hd : dp + 180 < recursionLimit) (hu : un + 1440 < cLine)
    (N : News h₀ L s.heap news)
    (ret : ∀ h' tk tk9 t9, tk9 = lzI lz mo (min ((mo : Int) + no) ((z : Int) - ko)) → Fr h₀ L h' (fun y => if y = Str.ofString "taken" then some (.int tk9 t9) else (M3 vc vs (M1 (fun y => if y = Str.ofString "text" then some (.str tx tt) else M0 mo no ko z t1 t2 t3 t4 D ml y) mo no ko lv t5 t6 t7 t8)) y) → News h₀ L h' news → Q .next { s with heap := h', toks := tk }) :
    wpAny (model PySem.Challenge.rw_sz0083_01.row.prog w) (ktrTop dp un gd cn cs L a ccd cl outer) (exec st (envX cn cs L a ccd cl)) Q E s := by
  conv at hcs => rhs; whnf
  subst hcs
  conv at hst => rhs; whnf
  subst hst
  rcases hl with ⟨e1, e2⟩ | ⟨e1, e2⟩
  · subst e1 e2
    k_steps
    exact ret _ _ _ _ rfl (by k_asm) (by k_asm)
  · subst e1 e2
    k_steps
    refine' ret _ _ _ _ ?_ (by k_asm) (by k_asm)
    rw [lzI_f]
    split <;> omega
theorem News_two {h : Heap} {a b : Addr × Obj} (N : News h₀ L h (a :: b :: news)) : News h₀ L h (news ++ [a, b]) := News_sub N (List.forall_mem_append.mpr ⟨fun q hq => .tail _ (.tail _ hq), List.forall_mem_cons.mpr ⟨.head _, List.forall_mem_cons.mpr ⟨.tail _ (.head _), List.forall_mem_nil _⟩⟩⟩)
theorem due_in {y l : Addr} {c : Nat} {pos : Int} {t : Tok} {r : Res} (hr : r = Option.some (pos, [])) : MatchIn (news ++ [(y, tup [.int pos t, .ref l]), (l, listOf #[] c)]) (.ref y) r := by
  subst hr
  exact .some (gv := []) (List.mem_append_right _ (.head _)) (List.mem_append_right _ (.tail _ (.head _))) .nil
theorem s7_c {mo no ko z : Nat} {t1 t2 t3 t4 t5 t6 t7 t8 tt : Tok} {tx lv : Str} {D : Addr} {ml : Str → Option Value} {vc vs : Option Value} {st : Stmt} {Q : Flow → Shared → Prop} {lz : Bool} {tk9 : Int} {t9 : Tok} (hcs : cs = lawScope) (hmo : mo < 4) (hno : no < 4) (hko : ko < 4) (hz : z < 11) (hl : (lv = Str.ofString "?" ∧ lz = true) ∨ (lv = Str.ofString "" ∧ lz = false)) (hst : st = lawS 6) (h9 : tk9 = lzI lz mo (min ((mo : Int) + no) ((z : Int) - ko)))
    (B : Below A₀ base outer h₀) (F : Fr h₀ L s.heap (fun y => if y = Str.ofString "taken" then some (.int tk9 t9) else (M3 vc vs (M1 (fun y => if y = Str.ofString "text" then some (.str tx tt) else M0 mo no ko z t1 t2 t3 t4 D ml y) mo no ko lv t5 t6 t7 t8)) y)) (X : (kk.heap_1 w.params).In h₀) (T : Top p loose mean mg mb h₀) (hd : dp + 180 < recursionLimit) (hu : un + 1440 < cLine)
    (N : News h₀ L s.heap news)
    (ret : ∀ h' tk v tl, Fr h₀ L h' (fun y => if y = Str.ofString "due" then some v else (fun y => if y = Str.ofString "taken" then some (.int tk9 t9) else (M3 vc vs (M1 (fun y => if y = Str.ofString "text" then some (.str tx tt) else M0 mo no ko z t1 t2 t3 t4 D ml y) mo no ko lv t5 t6 t7 t8)) y) y) → News h₀ L h' (news ++ tl) → MatchIn (news ++ tl) v (ex6 mo no ko z lz) → Q .next { s with heap := h', toks := tk }) :
    wpAny (model PySem.Challenge.rw_sz0083_01.row.prog w) (ktrTop dp un gd cn cs L a ccd cl outer) (exec st (envX cn cs L a ccd cl)) Q E s := by
  conv at hcs => rhs; whnf
  subst hcs
  conv at hst => rhs; whnf
  subst hst
  by_cases hc : (z : Int) ≥ (mo : Int) + ko
  · k_steps
    exact ret _ _ _ _ (by k_asm) (News_two (by k_asm)) (due_in (by unfold ex6; rw [if_pos hc, h9]))
  · k_steps
    exact ret _ _ _ [] (by k_asm) (by rw [List.append_nil]; k_asm) (by unfold ex6; rw [if_neg hc]; exact .none)
theorem s9_c {mo no ko z : Nat} {t1 t2 t3 t4 t5 t6 t7 t8 tt : Tok} {tx lv : Str} {D : Addr} {ml : Str → Option Value} {vc vs : Option Value} {st : Stmt} {Q : Flow → Shared → Prop} {lz : Bool} {tk9 : Int} {t9 : Tok} {dv : Value} (hcs : cs = lawScope) (hmo : mo < 4) (hno : no < 4) (hko : ko < 4) (hz : z < 11) (hl : (lv = Str.ofString "?" ∧ lz = true) ∨ (lv = Str.ofString "" ∧ lz = false)) (hst : st = lawS 8)
    (B : Below A₀ base outer h₀) (F : Fr h₀ L s.heap (fun y => if y = Str.ofString "due" then some dv else (fun y => if y = Str.ofString "taken" then some (.int tk9 t9) else (M3 vc vs (M1 (fun y => if y = Str.ofString "text" then some (.str tx tt) else M0 mo no ko z t1 t2 t3 t4 D ml y) mo no ko lv t5 t6 t7 t8)) y) y)) (X : (kk.heap_1 w.params).In h₀) (T : Top p loose mean mg mb h₀) (hd : dp + 180 < recursionLimit) (hu : un + 1440 < cLine)
    (N : News h₀ L s.heap news)
    (ret : ∀ h' tk v tl, Fr h₀ L h' (fun y => if y = Str.ofString "due" then some v else (fun y => if y = Str.ofString "due" then some dv else (fun y => if y = Str.ofString "taken" then some (.int tk9 t9) else (M3 vc vs (M1 (fun y => if y = Str.ofString "text" then some (.str tx tt) else M0 mo no ko z t1 t2 t3 t4 D ml y) mo no ko lv t5 t6 t7 t8)) y) y) y) → News h₀ L h' (news ++ tl) → MatchIn (news ++ tl) v (ex7 mo ko z lz) → Q .next { s with heap := h', toks := tk }) :
    wpAny (model PySem.Challenge.rw_sz0083_01.row.prog w) (ktrTop dp un gd cn cs L a ccd cl outer) (exec st (envX cn cs L a ccd cl)) Q E s := by
  conv at hcs => rhs; whnf
  subst hcs
  conv at hst => rhs; whnf
  subst hst
  by_cases hc : (z : Int) ≥ (mo : Int) + ko
  · rcases hl with ⟨e1, e2⟩ | ⟨e1, e2⟩
    · subst e1 e2
      k_steps
      exact ret _ _ _ _ (by k_asm) (News_two (by k_asm)) (due_in (by unfold ex7; rw [if_pos hc, lzI_t]))
    · subst e1 e2
      k_steps
      exact ret _ _ _ _ (by k_asm) (News_two (by k_asm)) (due_in (by unfold ex7; rw [if_pos hc, lzI_f]))
  · k_steps
    exact ret _ _ _ [] (by k_asm) (by rw [List.append_nil]; k_asm) (by unfold ex7; rw [if_neg hc]; exact .none)
theorem News_three {h : Heap} {a b c : Addr × Obj} (N : News h₀ L h (a :: b :: c :: news)) : News h₀ L h (news ++ [a, b, c]) := News_sub N (List.forall_mem_append.mpr ⟨fun q hq => .tail _ (.tail _ (.tail _ hq)), List.forall_mem_cons.mpr ⟨.head _, List.forall_mem_cons.mpr ⟨.tail _ (.head _), List.forall_mem_cons.mpr ⟨.tail _ (.tail _ (.head _)), List.forall_mem_nil _⟩⟩⟩⟩)
theorem due_in2 {y l : Addr} {c : Nat} {pos : Int} {t : Tok} {r : Res} (hr : r = Option.some (pos, [Option.none])) : MatchIn (news ++ [(y, tup [.int pos t, .ref l]), (l, listOf #[.none] c)]) (.ref y) r := by
  subst hr
  exact .some (gv := [.none]) (List.mem_append_right _ (.head _)) (List.mem_append_right _ (.tail _ (.head _))) (.cons .none .nil)
theorem due_in3 {y l g : Addr} {c : Nat} {pos i j : Int} {t u v : Tok} {r : Res} (hr : r = Option.some (pos, [Option.some (i, j)])) : MatchIn (news ++ [(y, tup [.int pos t, .ref l]), (l, listOf #[.ref g] c), (g, tup [.int i u, .int j v])]) (.ref y) r := by
  subst hr
  exact .some (gv := [.ref g]) (List.mem_append_right _ (.head _)) (List.mem_append_right _ (.tail _ (.head _))) (.cons (.some (List.mem_append_right _ (.tail _ (.tail _ (.head _))))) .nil)
theorem s11_c {mo no ko z : Nat} {t1 t2 t3 t4 t5 t6 t7 t8 tt : Tok} {tx lv : Str} {D : Addr} {ml : Str → Option Value} {vc vs : Option Value} {st : Stmt} {Q : Flow → Shared → Prop} {lz : Bool} {tk9 : Int} {t9 : Tok} {dv dv2 : Value} (hcs : cs = lawScope) (hmo : mo < 4) (hno : no < 4) (hko : ko < 4) (hz : z < 11) (hl : (lv = Str.ofString "?" ∧ lz = true) ∨ (lv = Str.ofString "" ∧ lz = false)) (hst : st = lawS 10)
    (B : Below A₀ base outer h₀) (F : Fr h₀ L s.heap (fun y => if y = Str.ofString "due" then some dv2 else (fun y => if y = Str.ofString "due" then some dv else (fun y => if y = Str.ofString "taken" then some (.int tk9 t9) else (M3 vc vs (M1 (fun y => if y = Str.ofString "text" then some (.str tx tt) else M0 mo no ko z t1 t2 t3 t4 D ml y) mo no ko lv t5 t6 t7 t8)) y) y) y)) (X : (kk.heap_1 w.params).In h₀) (T : Top p loose mean mg mb h₀) (hd : dp + 180 < recursionLimit) (hu : un + 1440 < cLine)
    (N : News h₀ L s.heap news)
    (ret : ∀ h' tk v tl, Fr h₀ L h' (fun y => if y = Str.ofString "due" then some v else (fun y => if y = Str.ofString "due" then some dv2 else (fun y => if y = Str.ofString "due" then some dv else (fun y => if y = Str.ofString "taken" then some (.int tk9 t9) else (M3 vc vs (M1 (fun y => if y = Str.ofString "text" then some (.str tx tt) else M0 mo no ko z t1 t2 t3 t4 D ml y) mo no ko lv t5 t6 t7 t8)) y) y) y) y) → News h₀ L h' (news ++ tl) → MatchIn (news ++ tl) v (ex8 mo no z) → Q .next { s with heap := h', toks := tk }) :
    wpAny (model PySem.Challenge.rw_sz0083_01.row.prog w) (ktrTop dp un gd cn cs L a ccd cl outer) (exec st (envX cn cs L a ccd cl)) Q E s := by
  have m1 : 0 ≤ (mo : Int) * no ∧ (mo : Int) * no < 10 := by
    have : mo * no ≤ 3 * 3 := Nat.mul_le_mul (by omega) (by omega)
    have e : (mo : Int) * no = ((mo * no : Nat) : Int) := (Int.natCast_mul _ _).symm
    rw [e]; omega
  conv at hcs => rhs; whnf
  subst hcs
  conv at hst => rhs; whnf
  subst hst
  by_cases hc : (mo : Int) * no ≤ (z : Int)
  · by_cases hp : (no : Int) > 0
    · k_steps
      exact ret _ _ _ _ (by k_asm) (News_three (by k_asm)) (due_in3 (by unfold ex8; rw [if_pos hc, if_pos hp]))
    · k_steps
      exact ret _ _ _ _ (by k_asm) (News_two (by k_asm)) (due_in2 (by unfold ex8; rw [if_pos hc, if_neg hp]))
  · k_steps
    exact ret _ _ _ [] (by k_asm) (by rw [List.append_nil]; k_asm) (by unfold ex8; rw [if_neg hc]; exact .none)
theorem s8_c {mo no ko z : Nat} {t1 t2 t3 t4 t5 t6 t7 t8 tt : Tok} {tx lv : Str} {D : Addr} {ml : Str → Option Value} {vc vs : Option Value} {st : Stmt} {Q : Flow → Shared → Prop} {lz : Bool} {lq : List Nat} {tk9 : Int} {t9 : Tok} {dv dv2 : Value} {r : Res} (hcs : cs = lawScope) (hmo : mo < 4) (hno : no < 4) (hko : ko < 4) (hz : z < 11) (hl : (lv = Str.ofString "?" ∧ lz = true) ∨ (lv = Str.ofString "" ∧ lz = false)) (hst : st = lawS 7) (hlv : lv = ⟨lq.toArray⟩) (hlq : lq.length ≤ 1)
    (S : EndSpec w ⟨(97 :: 123 :: (48 + mo) :: 44 :: (48 + (mo + no)) :: 125 :: (lq ++ [97, 123, 48 + ko, 125])).toArray⟩ tx r) (hdue : MatchIn news dv r) (hr0 : r = Option.none ∨ ∃ pos, r = Option.some (pos, []))
    (B : Below A₀ base outer h₀) (F : Fr h₀ L s.heap (fun y => if y = Str.ofString "due" then some dv else (fun y => if y = Str.ofString "taken" then some (.int tk9 t9) else (M3 vc vs (M1 (fun y => if y = Str.ofString "text" then some (.str tx tt) else M0 mo no ko z t1 t2 t3 t4 D ml y) mo no ko lv t5 t6 t7 t8)) y) y)) (X : (kk.heap_1 w.params).In h₀) (T : Top p loose mean mg mb h₀) (hd : dp + 180 < recursionLimit) (hu : un + 1440 < cLine)
    (N : News h₀ L s.heap news) 
    (ret : ∀ h' tk, Fr h₀ L h' (fun y => if y = Str.ofString "due" then some dv else (fun y => if y = Str.ofString "taken" then some (.int tk9 t9) else (M3 vc vs (M1 (fun y => if y = Str.ofString "text" then some (.str tx tt) else M0 mo no ko z t1 t2 t3 t4 D ml y) mo no ko lv t5 t6 t7 t8)) y) y) → News h₀ L h' news → Q .next { s with heap := h', toks := tk }) :
    wpAny (model PySem.Challenge.rw_sz0083_01.row.prog w) (ktrTop dp un gd cn cs L a ccd cl outer) (exec st (envX cn cs L a ccd cl)) Q E s := by
  conv at hcs => rhs; whnf
  subst hcs
  conv at hst => rhs; whnf
  subst hst
  rcases hr0 with hr | ⟨pos, hr⟩
  · rw [hr] at hdue
    have e := MatchIn.none_eq hdue
    subst e
    k_steps
    all_goals first | k_data | exact ret _ _ (by k_asm) (by k_asm)
  · rw [hr] at hdue
    obtain ⟨y9, g9, c9, t99, gv9, e, hy9, hg9, hgs9⟩ := MatchIn.some_ref hdue
    have := all_nil hgs9
    subst this e
    have N9 := News_pre N hy9 hg9
    k_steps
    all_goals first | k_data | exact ret _ _ (by k_asm) (News_sub (by k_asm) (fun q hq => by (repeat (refine' List.mem_cons_of_mem _ ?_)); assumption))
theorem s10_c {mo no ko z : Nat} {t1 t2 t3 t4 t5 t6 t7 t8 tt : Tok} {tx lv : Str} {D : Addr} {ml : Str → Option Value} {vc vs : Option Value} {st : Stmt} {Q : Flow → Shared → Prop} {lz : Bool} {lq : List Nat} {tk9 : Int} {t9 : Tok} {dv dv2 : Value} {r : Res} (hcs : cs = lawScope) (hmo : mo < 4) (hno : no < 4) (hko : ko < 4) (hz : z < 11) (hl : (lv = Str.ofString "?" ∧ lz = true) ∨ (lv = Str.ofString "" ∧ lz = false)) (hst : st = lawS 9) (hlv : lv = ⟨lq.toArray⟩) (hlq : lq.length ≤ 1)
    (S : EndSpec w ⟨(97 :: 123 :: (48 + mo) :: 44 :: 125 :: (lq ++ [97, 123, 48 + ko, 125])).toArray⟩ tx r) (hdue : MatchIn news dv2 r) (hr0 : r = Option.none ∨ ∃ pos, r = Option.some (pos, []))
    (B : Below A₀ base outer h₀) (F : Fr h₀ L s.heap (fun y => if y = Str.ofString "due" then some dv2 else (fun y => if y = Str.ofString "due" then some dv else (fun y => if y = Str.ofString "taken" then some (.int tk9 t9) else (M3 vc vs (M1 (fun y => if y = Str.ofString "text" then some (.str tx tt) else M0 mo no ko z t1 t2 t3 t4 D ml y) mo no ko lv t5 t6 t7 t8)) y) y) y)) (X : (kk.heap_1 w.params).In h₀) (T : Top p loose mean mg mb h₀) (hd : dp + 180 < recursionLimit) (hu : un + 1440 < cLine)
    (N : News h₀ L s.heap news) 
    (ret : ∀ h' tk, Fr h₀ L h' (fun y => if y = Str.ofString "due" then some dv2 else (fun y => if y = Str.ofString "due" then some dv else (fun y => if y = Str.ofString "taken" then some (.int tk9 t9) else (M3 vc vs (M1 (fun y => if y = Str.ofString "text" then some (.str tx tt) else M0 mo no ko z t1 t2 t3 t4 D ml y) mo no ko lv t5 t6 t7 t8)) y) y) y) → News h₀ L h' news → Q .next { s with heap := h', toks := tk }) :
    wpAny (model PySem.Challenge.rw_sz0083_01.row.prog w) (ktrTop dp un gd cn cs L a ccd cl outer) (exec st (envX cn cs L a ccd cl)) Q E s := by
  conv at hcs => rhs; whnf
  subst hcs
  conv at hst => rhs; whnf
  subst hst
  rcases hr0 with hr | ⟨pos, hr⟩
  · rw [hr] at hdue
    have e := MatchIn.none_eq hdue
    subst e
    k_steps
    all_goals first | k_data | exact ret _ _ (by k_asm) (by k_asm)
  · rw [hr] at hdue
    obtain ⟨y9, g9, c9, t99, gv9, e, hy9, hg9, hgs9⟩ := MatchIn.some_ref hdue
    have := all_nil hgs9
    subst this e
    have N9 := News_pre N hy9 hg9
    k_steps
    all_goals first | k_data | exact ret _ _ (by k_asm) (News_sub (by k_asm) (fun q hq => by (repeat (refine' List.mem_cons_of_mem _ ?_)); assumption))
theorem EndSpec.use2 {src tx : Str} {r : Res} {pos : Int} {t1 t2 : Tok}
    (B : Below A₀ base outer h₀) (F : Fr h₀ L s.heap m) (X : (kk.heap_1 w.params).In h₀) (T : Top p loose mean mg mb h₀) (hk : cs.kind = .function) (hd : dp + 180 < recursionLimit) (hu : un + 1440 < cLine) (N : News h₀ L s.heap news) (S : EndSpec w src tx r) (hr : r = Option.some (pos, [Option.none])) (ret : ∀ h' tk y g c t, Fr h₀ L h' m → News h₀ L h' ((y, tup [.int pos t, .ref g]) :: (g, listOf #[.none] c) :: news) → Q (.ref y) { s with heap := h', toks := tk }) :
    wpAny (model PySem.Challenge.rw_sz0083_01.row.prog w) (ktrTop dp un gd cn cs L a ccd cl outer) (call (.ref 661) [.str src t1, .str tx t2]) Q E s := by
  subst hr
  refine S.use B F X T hk hd hu N fun h' tk v tl F' N' R' => ?_
  obtain ⟨y', g', c', t', gv', e', hy', hg', hgs'⟩ := MatchIn.some_ref R'
  cases hgs' with
  | cons h1 h2 =>
    cases h1; cases h2
    subst e'
    exact ret h' tk y' g' c' t' F' (News_sub N' (List.forall_mem_cons.mpr ⟨hy', List.forall_mem_cons.mpr ⟨hg', fun q hq => List.mem_append_left _ hq⟩⟩))
theorem EndSpec.use3 {src tx : Str} {r : Res} {pos i j : Int} {t1 t2 : Tok}
    (B : Below A₀ base outer h₀) (F : Fr h₀ L s.heap m) (X : (kk.heap_1 w.params).In h₀) (T : Top p loose mean mg mb h₀) (hk : cs.kind = .function) (hd : dp + 180 < recursionLimit) (hu : un + 1440 < cLine) (N : News h₀ L s.heap news) (S : EndSpec w src tx r) (hr : r = Option.some (pos, [Option.some (i, j)])) (ret : ∀ h' tk y g z c t u v, Fr h₀ L h' m → News h₀ L h' ((y, tup [.int pos t, .ref g]) :: (g, listOf #[.ref z] c) :: (z, tup [.int i u, .int j v]) :: news) → Q (.ref y) { s with heap := h', toks := tk }) :
    wpAny (model PySem.Challenge.rw_sz0083_01.row.prog w) (ktrTop dp un gd cn cs L a ccd cl outer) (call (.ref 661) [.str src t1, .str tx t2]) Q E s := by
  subst hr
  refine S.use B F X T hk hd hu N fun h' tk v tl F' N' R' => ?_
  obtain ⟨y', g', c', t', gv', e', hy', hg', hgs'⟩ := MatchIn.some_ref R'
  cases hgs' with
  | cons h1 h2 =>
    cases h2
    cases h1 with
    | some h3 =>
      subst e'
      exact ret h' tk y' g' _ c' t' _ _ F' (News_sub N' (List.forall_mem_cons.mpr ⟨hy', List.forall_mem_cons.mpr ⟨hg', List.forall_mem_cons.mpr ⟨h3, fun q hq => List.mem_append_left _ hq⟩⟩⟩))
theorem s12_c {mo no ko z : Nat} {t1 t2 t3 t4 t5 t6 t7 t8 tt : Tok} {tx lv : Str} {D : Addr} {ml : Str → Option Value} {vc vs : Option Value} {st : Stmt} {Q : Flow → Shared → Prop} {lz : Bool} {tk9 : Int} {t9 : Tok} {dv dv2 dv3 : Value} {r : Res} (hcs : cs = lawScope) (hmo : mo < 4) (hno : no < 4) (hko : ko < 4) (hz : z < 11) (hl : (lv = Str.ofString "?" ∧ lz = true) ∨ (lv = Str.ofString "" ∧ lz = false)) (hst : st = lawS 11)
    (S : EndSpec w ⟨[40, 97, 123, 48 + mo, 125, 41, 123, 48 + no, 125].toArray⟩ tx r) (hdue : MatchIn news dv3 r) (hr0 : r = Option.none ∨ (∃ pos, r = Option.some (pos, [Option.none])) ∨ ∃ pos i j, r = Option.some (pos, [Option.some (i, j)]))
    (B : Below A₀ base outer h₀) (F : Fr h₀ L s.heap (fun y => if y = Str.ofString "due" then some dv3 else (fun y => if y = Str.ofString "due" then some dv2 else (fun y => if y = Str.ofString "due" then some dv else (fun y => if y = Str.ofString "taken" then some (.int tk9 t9) else (M3 vc vs (M1 (fun y => if y = Str.ofString "text" then some (.str tx tt) else M0 mo no ko z t1 t2 t3 t4 D ml y) mo no ko lv t5 t6 t7 t8)) y) y) y) y)) (X : (kk.heap_1 w.params).In h₀) (T : Top p loose mean mg mb h₀) (hd : dp + 180 < recursionLimit) (hu : un + 1440 < cLine)
    (N : News h₀ L s.heap news)
    (ret : ∀ h' tk m', Fr h₀ L h' m' → News h₀ L h' news → Q (.ret (.bool true)) { s with heap := h', toks := tk }) :
    wpAny (model PySem.Challenge.rw_sz0083_01.row.prog w) (ktrTop dp un gd cn cs L a ccd cl outer) (exec st (envX cn cs L a ccd cl)) Q E s := by
  conv at hcs => rhs; whnf
  subst hcs
  conv at hst => rhs; whnf
  subst hst
  rcases hr0 with hr | ⟨pos, hr⟩ | ⟨pos, i9, j9, hr⟩
  · rw [hr] at hdue
    have e := MatchIn.none_eq hdue
    subst e
    k_steps
    all_goals first | k_data | exact ret _ _ _ (by k_asm) (by k_asm)
  · rw [hr] at hdue
    obtain ⟨y9, g9, c9, t99, gv9, e, hy9, hg9, hgs9⟩ := MatchIn.some_ref hdue
    cases hgs9 with
    | cons h1 h2 =>
      cases h1; cases h2
      subst e
      have N9 := News_pre N hy9 hg9
      k_steps
      all_goals first | k_data | exact ret _ _ _ (by k_asm) (News_sub (by k_asm) (fun q hq => by (repeat (refine' List.mem_cons_of_mem _ ?_)); assumption))
  · rw [hr] at hdue
    obtain ⟨y9, g9, c9, t99, gv9, e, hy9, hg9, hgs9⟩ := MatchIn.some_ref hdue
    cases hgs9 with
    | cons h1 h2 =>
      cases h2
      cases h1 with
      | some h3 =>
        subst e
        have N9 : News h₀ L s.heap (_ :: _ :: _ :: news) := News_sub N (List.forall_mem_cons.mpr ⟨hy9, List.forall_mem_cons.mpr ⟨hg9, List.forall_mem_cons.mpr ⟨h3, fun _ h => h⟩⟩⟩)
        k_steps
        all_goals first | k_data | exact ret _ _ _ (by k_asm) (News_sub (by k_asm) (fun q hq => by (repeat (refine' List.mem_cons_of_mem _ ?_)); assumption))
theorem ex6_or {mo no ko z : Nat} {lz : Bool} : ex6 mo no ko z lz = Option.none ∨ ∃ pos, ex6 mo no ko z lz = Option.some (pos, []) := by
  unfold ex6
  split
  · exact .inr ⟨_, rfl⟩
  · exact .inl rfl
theorem ex7_or {mo ko z : Nat} {lz : Bool} : ex7 mo ko z lz = Option.none ∨ ∃ pos, ex7 mo ko z lz = Option.some (pos, []) := by
  unfold ex7
  split
  · exact .inr ⟨_, rfl⟩
  · exact .inl rfl
theorem ex8_or {mo no z : Nat} : ex8 mo no z = Option.none ∨ (∃ pos, ex8 mo no z = Option.some (pos, [Option.none])) ∨ ∃ pos i j, ex8 mo no z = Option.some (pos, [Option.some (i, j)]) := by
  unfold ex8
  split
  · split
    · exact .inr (.inr ⟨_, _, _, rfl⟩)
    · exact .inr (.inl ⟨_, rfl⟩)
  · exact .inl rfl
theorem lawBody_eq : lawBody.drop 2 = [lawS 2, lawS 3, lawS 4, lawS 5, lawS 6, lawS 7, lawS 8, lawS 9, lawS 10, lawS 11] := rfl
theorem rest_c {one two three size : Int} {t1 t2 t3 t4 : Tok} {D : Addr} {ml : Str → Option Value} {sts : List Stmt} {ws : List Value} {ns : List Int} {cp : Nat} {Q : Flow → Shared → Prop} (hcs : cs = lawScope) (hst : sts = lawBody.drop 2)
    (h1 : 0 ≤ one ∧ one < 4) (h2 : 0 ≤ two ∧ two < 4) (h3 : 0 ≤ three ∧ three < 4) (hz : 0 ≤ size ∧ size < 11)
    (B : Below A₀ base outer h₀) (F : Fr h₀ L s.heap (M0 one two three size t1 t2 t3 t4 D ml)) (X : (kk.heap_1 w.params).In h₀) (T : Top p loose mean mg mb h₀) (hd : dp + 180 < recursionLimit) (hu : un + 1440 < cLine)
    (N : News h₀ L s.heap news) (hD : (D, listOf ws.toArray cp) ∈ news) (hI : IntsAre ws ns) (hl : ns.length = 5)
    (hPE : PassesOwn (model PySem.Challenge.rw_sz0083_01.row.prog w) (ktrTop dp un gd cn cs L a ccd cl outer) (envX cn cs L a ccd cl) E)
    (ret : ∀ h' tk m', Fr h₀ L h' m' → Q (.ret (.bool true)) { s with heap := h', toks := tk }) :
    wpAny (model PySem.Challenge.rw_sz0083_01.row.prog w) (ktrTop dp un gd cn cs L a ccd cl outer) (execs sts (envX cn cs L a ccd cl)) Q E s := by
  rw [hst, lawBody_eq]
  obtain ⟨mo, rfl⟩ := Int.eq_ofNat_of_zero_le h1.1
  obtain ⟨no, rfl⟩ := Int.eq_ofNat_of_zero_le h2.1
  obtain ⟨ko, rfl⟩ := Int.eq_ofNat_of_zero_le h3.1
  obtain ⟨z, rfl⟩ := Int.eq_ofNat_of_zero_le hz.1
  have hmo : mo < 4 := by omega
  have hno : no < 4 := by omega
  have hko : ko < 4 := by omega
  have hzo : z < 11 := by omega
  have m3 : mo * no < 10 := by
    have : mo * no ≤ 3 * 3 := Nat.mul_le_mul (by omega) (by omega)
    omega
  refine wpAny_execs_cons (s3_c hcs rfl hz B F X T hd hu N hD hI hl fun h' tk tx t hT F N => ?_)
  refine wpAny_execs_cons (s4_c hcs rfl hmo hno hko B F X T hd hu N hD hI hl fun h' tk lz lv t5 t6 t7 t8 hlv F N => ?_)
  have hlq : (lzl lz).length ≤ 1 := by cases lz <;> decide
  have hl4 : (lv = Str.ofString "?" ∧ lz = true) ∨ (lv = Str.ofString "" ∧ lz = false) := by
    cases lz with
    | true => exact .inl ⟨hlv.trans lit_q.symm, rfl⟩
    | false => exact .inr ⟨hlv.trans lit_e.symm, rfl⟩
  have E2 := e2 (w := w) (c := mo + no) (by omega) hzo hT
  rw [Int.natCast_add] at E2
  have E4 := e2 (w := w) (c := mo * no) m3 hzo hT
  rw [Int.natCast_mul] at E4
  have E6 : EndSpec w ⟨(97 :: 123 :: (48 + mo) :: 125 :: (lzl lz ++ [97, 123, 48 + ko, 125])).toArray⟩ tx (exI ((mo : Int) + ko) z) := by
    cases lz with
    | true => exact e1z hmo hko hzo hT
    | false => exact e1 hmo hko hzo hT
  have E7 : EndSpec w ⟨(97 :: 123 :: (48 + mo) :: 44 :: (48 + (mo + no)) :: 125 :: (lzl lz ++ [97, 123, 48 + ko, 125])).toArray⟩ tx (ex6 mo no ko z lz) := by
    cases lz with
    | true => exact e6z hmo hno hko hzo hT
    | false => exact e6 hmo hno hko hzo hT
  have E8 : EndSpec w ⟨(97 :: 123 :: (48 + mo) :: 44 :: 125 :: (lzl lz ++ [97, 123, 48 + ko, 125])).toArray⟩ tx (ex7 mo ko z lz) := by
    cases lz with
    | true => exact e7z hmo hko hzo hT
    | false => exact e7 hmo hko hzo hT
  refine wpAny_execs_cons (s5_c hcs rfl hmo hno hko hzo hlv hlq (e1 hmo hno hzo hT) E2 (e3 hmo hno hzo hT) E4 (e4 hmo hno hko hzo hT) E6 B F X T hd hu N hPE fun h' tk vc vs F N => ?_)
  refine wpAny_execs_cons (s6_c hcs hmo hno hko hzo hl4 rfl B F X T hd hu N fun h' tk tk9 t9 e9 F N => ?_)
  refine wpAny_execs_cons (s7_c hcs hmo hno hko hzo hl4 rfl e9 B F X T hd hu N fun h' tk v tl F N M => ?_)
  refine wpAny_execs_cons (s8_c (dv2 := .none) hcs hmo hno hko hzo hl4 rfl hlv hlq E7 M ex6_or B F X T hd hu N fun h' tk F N => ?_)
  refine wpAny_execs_cons (s9_c hcs hmo hno hko hzo hl4 rfl B F X T hd hu N fun h' tk v2 tl2 F N M => ?_)
  refine wpAny_execs_cons (s10_c hcs hmo hno hko hzo hl4 rfl hlv hlq E8 M ex7_or B F X T hd hu N fun h' tk F N => ?_)
  refine wpAny_execs_cons (s11_c hcs hmo hno hko hzo hl4 rfl B F X T hd hu N fun h' tk v3 tl3 F N M => ?_)
  exact wpAny_execs_cons (s12_c hcs hmo hno hko hzo hl4 rfl (e8 hmo hno hzo hT) M ex8_or B F X T hd hu N fun h' tk m' F N => ret h' tk m' F)
end
end
end
section
theorem fmod_b {k j : Int} (h : 0 < j) : 0 ≤ k.fmod j ∧ k.fmod j < j := ⟨Int.fmod_nonneg_of_pos k h, Int.fmod_lt_of_pos k h⟩
theorem five {ns : List Int} {f : Int → Int} {k : Int} (e : k.toNat = (ns.take 5).length) : (List.map f (ns.take 5) ++ [2, 3, 2, 9, 1].drop k.toNat).length = 5 := by
  k_with_none
  rw [e]
  simp only [List.length_append, List.length_map, List.length_drop, List.length_take, List.length_cons, List.length_nil]
  omega
theorem hd.tw10012880186880212623 : True := trivial
theorem hd.tw10024716035694756283 : True := trivial
theorem hd.tw10030107230732127627 : True := trivial
theorem hd.tw1005483496087919985 : True := trivial
theorem hd.tw10111801491309104144 : True := trivial
theorem hd.tw10117440562283002822 : True := trivial
theorem hd.tw1013155817946168525 : True := trivial
theorem hd.tw10170382586518783626 : True := trivial
theorem hd.tw10203026625882799534 : True := trivial
theorem hd.tw10216474801634566288 : True := trivial
theorem hd.tw10246146449241189800 : True := trivial
theorem hd.tw10258999931320997221 : True := trivial
theorem hd.tw10264135568141901301 : True := trivial
theorem hd.tw10292235466723388172 : True := trivial
theorem hd.tw1033889070964956483 : True := trivial
theorem hd.tw10403243965636340961 : True := trivial
theorem hd.tw10404513684093684653 : True := trivial
theorem hd.tw10424393626065333798 : True := trivial
theorem hd.tw10458740792067480800 : True := trivial
theorem hd.tw10472018719410664625 : True := trivial
theorem hd.tw10491609206876299696 : True := trivial
theorem hd.tw10507497572311344420 : True := trivial
theorem hd.tw10525666975642140466 : True := trivial
theorem hd.tw10543509907540572799 : True := trivial
theorem hd.tw10583446816852156582 : True := trivial
theorem hd.tw10601615944963115059 : True := trivial
theorem hd.tw10603584201595350602 : True := trivial
theorem hd.tw10614716105012338702 : True := trivial
theorem hd.tw10678649693572172417 : True := trivial
theorem hd.tw10738003575532504788 : True := trivial
theorem hd.tw10743916045514856203 : True := trivial
theorem hd.tw10781468475247234061 : True := trivial
theorem hd.tw10792051664901133789 : True := trivial
theorem hd.tw10806950440038215891 : True := trivial
theorem hd.tw10847404155465417027 : True := trivial
theorem hd.tw10860895700388868024 : True := trivial
theorem hd.tw1088296927520436173 : True := trivial
theorem hd.tw10905682514733158466 : True := trivial
theorem hd.tw10919297434634762262 : True := trivial
theorem hd.tw11034497122203965937 : True := trivial
theorem hd.tw11054480109507316185 : True := trivial
theorem hd.tw11079593142295127227 : True := trivial
theorem hd.tw11128854368766332075 : True := trivial
theorem hd.tw11136197038861592535 : True := trivial
theorem hd.tw11151547217846952531 : True := trivial
theorem hd.tw11162318198679636149 : True := trivial
theorem hd.tw1118553966540926140 : True := trivial
theorem hd.tw11232374478483605306 : True := trivial
theorem hd.tw11249132867342737325 : True := trivial
theorem hd.tw11256106856564762260 : True := trivial
theorem hd.tw11319097763535126812 : True := trivial
theorem hd.tw11319892378374348655 : True := trivial
theorem hd.tw11389486352061984695 : True := trivial
theorem hd.tw11399449904127653305 : True := trivial
theorem hd.tw11465210709893060100 : True := trivial
theorem hd.tw1147470481896660410 : True := trivial
theorem hd.tw11587034568685482758 : True := trivial
theorem hd.tw11631869004601391166 : True := trivial
theorem hd.tw11631947586910100387 : True := trivial
theorem hd.tw11652457597714270106 : True := trivial
theorem hd.tw11660266114150955751 : True := trivial
theorem hd.tw11672842613191775419 : True := trivial
theorem hd.tw11709330566771433103 : True := trivial
theorem hd.tw11754176132448286083 : True := trivial
theorem hd.tw11767976778520718283 : True := trivial
theorem hd.tw11778180911958503814 : True := trivial
theorem hd.tw11801993109049149486 : True := trivial
theorem hd.tw11893437276241958245 : True := trivial
theorem hd.tw11905163887095721015 : True := trivial
theorem hd.tw11912922877643110818 : True := trivial
theorem hd.tw11917015161858427179 : True := trivial
theorem hd.tw11953376511379268794 : True := trivial
theorem hd.tw1197925565968671727 : True := trivial
theorem hd.tw12023040214023829324 : True := trivial
theorem hd.tw12050417470231563642 : True := trivial
theorem hd.tw12058812876911547015 : True := trivial
theorem hd.tw12070051907170230399 : True := trivial
theorem hd.tw12070654863422294720 : True := trivial
theorem hd.tw12112201142124510154 : True := trivial
theorem hd.tw12113243949977362033 : True := trivial
theorem hd.tw12127338746724423809 : True := trivial
theorem hd.tw12131494931117144662 : True := trivial
theorem hd.tw1222794163293265305 : True := trivial
theorem hd.tw12239354291974867115 : True := trivial
theorem hd.tw12268275109542032366 : True := trivial
theorem hd.tw12271959270614036898 : True := trivial
theorem hd.tw12350410155528471161 : True := trivial
theorem hd.tw12393119488966705847 : True := trivial
theorem hd.tw12394076208661396346 : True := trivial
theorem hd.tw12399718760709695909 : True := trivial
theorem hd.tw1241404454085649124 : True := trivial
theorem hd.tw12414669353804360901 : True := trivial
theorem hd.tw12459740579856956213 : True := trivial
theorem hd.tw12486720848796965907 : True := trivial
theorem hd.tw12487502673411948298 : True := trivial
theorem hd.tw12521463284412890351 : True := trivial
theorem hd.tw12590977762386282803 : True := trivial
theorem hd.tw12591134339009171964 : True := trivial
theorem hd.tw12602439190401603521 : True := trivial
theorem hd.tw12611767792052310623 : True := trivial
theorem hd.tw12614811148066621264 : True := trivial
theorem hd.tw12629568148972539762 : True := trivial
theorem hd.tw12631932088317031055 : True := trivial
theorem hd.tw12647368939536790636 : True := trivial
theorem hd.tw12659318050587179527 : True := trivial
theorem hd.tw12769127236821124696 : True := trivial
theorem hd.tw12832683148521936107 : True := trivial
theorem hd.tw12861998865439983172 : True := trivial
theorem hd.tw12870888531099404533 : True := trivial
theorem hd.tw12901994302517312135 : True := trivial
theorem hd.tw12925607291903140011 : True := trivial
theorem hd.tw12936449754285732098 : True := trivial
theorem hd.tw12940713784782232206 : True := trivial
theorem hd.tw12949589719889679912 : True := trivial
theorem hd.tw1299046323782801668 : True := trivial
theorem hd.tw12994019391074448376 : True := trivial
theorem hd.tw13038990169509382042 : True := trivial
theorem hd.tw13047593935725612058 : True := trivial
theorem hd.tw13066319289922817542 : True := trivial
theorem hd.tw13181700845877081190 : True := trivial
theorem hd.tw13202347690900084538 : True := trivial
theorem hd.tw13217827037086042188 : True := trivial
theorem hd.tw13225837485096350037 : True := trivial
theorem hd.tw13267510147771200024 : True := trivial
theorem hd.tw13280443560766958183 : True := trivial
theorem hd.tw13285133528070534704 : True := trivial
theorem hd.tw13289513938125300765 : True := trivial
theorem hd.tw13293453174229064190 : True := trivial
theorem hd.tw1331086792558400476 : True := trivial
theorem hd.tw13315533130655954831 : True := trivial
theorem hd.tw13321331477185743149 : True := trivial
theorem hd.tw13322179722446271537 : True := trivial
theorem hd.tw13330244855972007585 : True := trivial
theorem hd.tw13342606739435360313 : True := trivial
theorem hd.tw13368278939475635651 : True := trivial
theorem hd.tw13372043803930879067 : True := trivial
theorem hd.tw13409441903868389331 : True := trivial
theorem hd.tw13466754112058979494 : True := trivial
theorem hd.tw13483081372092288885 : True := trivial
theorem hd.tw13518370688599389936 : True := trivial
theorem hd.tw13532847315355080253 : True := trivial
theorem hd.tw13566260322249332789 : True := trivial
theorem hd.tw1359830224848277088 : True := trivial
theorem hd.tw13609717118414637909 : True := trivial
theorem hd.tw13638418597567726942 : True := trivial
theorem hd.tw13642289790063256904 : True := trivial
theorem hd.tw13770079208771991547 : True := trivial
theorem hd.tw13783031573616600631 : True := trivial
theorem hd.tw13828106393651249627 : True := trivial
theorem hd.tw1382963296337349011 : True := trivial
theorem hd.tw13855881374063213867 : True := trivial
theorem hd.tw13855946660403688772 : True := trivial
theorem hd.tw13866372431405929976 : True := trivial
theorem hd.tw13893168526513508166 : True := trivial
theorem hd.tw13903934854276604550 : True := trivial
theorem hd.tw13929354066492186541 : True := trivial
theorem hd.tw13931416462566266981 : True := trivial
theorem hd.tw14029546391885035639 : True := trivial
theorem hd.tw14090284624843534012 : True := trivial
theorem hd.tw1409312971732116557 : True := trivial
theorem hd.tw14103535550066685397 : True := trivial
theorem hd.tw1413172679324656950 : True := trivial
theorem hd.tw14137390275340422267 : True := trivial
theorem hd.tw14168552714766633299 : True := trivial
theorem hd.tw14176624398918483544 : True := trivial
theorem hd.tw14246236162039180721 : True := trivial
theorem hd.tw14294001040229213422 : True := trivial
theorem hd.tw14302393025113927684 : True := trivial
theorem hd.tw14353793391729792155 : True := trivial
theorem hd.tw14400467628812073631 : True := trivial
theorem hd.tw14438451200097066615 : True := trivial
theorem hd.tw14462709497994964445 : True := trivial
theorem hd.tw14478148883734587675 : True := trivial
theorem hd.tw14492701947808656938 : True := trivial
theorem hd.tw1452849714261714991 : True := trivial
theorem hd.tw14553816603554493358 : True := trivial
theorem hd.tw14560493823538711346 : True := trivial
theorem hd.tw14667805832236412624 : True := trivial
theorem hd.tw14705683404202351889 : True := trivial
theorem hd.tw14727110085682223627 : True := trivial
theorem hd.tw14745743045033390146 : True := trivial
theorem hd.tw14768889098011018680 : True := trivial
theorem hd.tw14772383043592177042 : True := trivial
theorem hd.tw14852329139284432860 : True := trivial
theorem hd.tw14892549342360969540 : True := trivial
theorem hd.tw14896477498954680388 : True := trivial
theorem hd.tw14906377314874228009 : True := trivial
theorem hd.tw14955159897011116063 : True := trivial
theorem hd.tw14960593345356199642 : True := trivial
theorem hd.tw15043168886218598503 : True := trivial
theorem hd.tw15048261121198461528 : True := trivial
theorem hd.tw1506431575118746342 : True := trivial
theorem hd.tw15083628210047938546 : True := trivial
theorem hd.tw15089522573102190283 : True := trivial
theorem hd.tw15103106377680225435 : True := trivial
theorem hd.tw15166520500009309586 : True := trivial
theorem hd.tw15179676742415161110 : True := trivial
theorem hd.tw15213948185873263833 : True := trivial
theorem hd.tw15220180469806662145 : True := trivial
theorem hd.tw15279998641719260112 : True := trivial
theorem hd.tw15344866539931968096 : True := trivial
theorem hd.tw15367242080415987702 : True := trivial
theorem hd.tw15368132723985388332 : True := trivial
theorem hd.tw15411387601460861337 : True := trivial
theorem hd.tw15416985209724490359 : True := trivial
theorem hd.tw15422856539912107476 : True := trivial
theorem hd.tw15427206886491885616 : True := trivial
theorem hd.tw15463257786427224491 : True := trivial
theorem hd.tw15508949281206285077 : True := trivial
theorem hd.tw15527848837575444561 : True := trivial
theorem hd.tw15529170255622000948 : True := trivial
theorem hd.tw15595854959937240912 : True := trivial
theorem hd.tw15610959940260225430 : True := trivial
theorem hd.tw15615420239508185596 : True := trivial
theorem hd.tw15615537253650120727 : True := trivial
theorem hd.tw15616948245753086127 : True := trivial
theorem hd.tw1563243489668339170 : True := trivial
theorem hd.tw1563692795949630186 : True := trivial
theorem hd.tw15642763164714097627 : True := trivial
theorem hd.tw15643275761693703936 : True := trivial
theorem hd.tw15675198926951892251 : True := trivial
theorem hd.tw15683763237869141255 : True := trivial
theorem hd.tw1573125329251079302 : True := trivial
theorem hd.tw15759970867653108152 : True := trivial
theorem hd.tw15790720579355451973 : True := trivial
theorem hd.tw15813434630575017362 : True := trivial
theorem hd.tw15833661619300960221 : True := trivial
theorem hd.tw15837987909243819085 : True := trivial
theorem hd.tw1588505670450824345 : True := trivial
theorem hd.tw1589133516308662214 : True := trivial
theorem hd.tw15946388913382835224 : True := trivial
theorem hd.tw15948780112781908787 : True := trivial
theorem hd.tw15967140613478806237 : True := trivial
theorem hd.tw15970666758778356346 : True := trivial
theorem hd.tw15987713032478767096 : True := trivial
theorem hd.tw1600037746751723098 : True := trivial
theorem hd.tw16006246977917349235 : True := trivial
theorem hd.tw16007149819294483003 : True := trivial
theorem hd.tw16009884308244765898 : True := trivial
theorem hd.tw16011055738799735888 : True := trivial
theorem hd.tw16029623286316568529 : True := trivial
theorem hd.tw16037735763661986305 : True := trivial
theorem hd.tw16053994301053490033 : True := trivial
theorem hd.tw16056359734778111409 : True := trivial
theorem hd.tw16064382804478563927 : True := trivial
theorem hd.tw16091413853298234908 : True := trivial
theorem hd.tw1610171440888473627 : True := trivial
theorem hd.tw16154546982801380032 : True := trivial
theorem hd.tw16155205043701107222 : True := trivial
theorem hd.tw16171809288044610508 : True := trivial
theorem hd.tw16178712458983371728 : True := trivial
theorem hd.tw16194383521188589630 : True := trivial
theorem hd.tw16257038226119295666 : True := trivial
theorem hd.tw16259696140248634718 : True := trivial
theorem hd.tw162610821266807592 : True := trivial
theorem hd.tw16299908979028503884 : True := trivial
theorem hd.tw16412773359747925120 : True := trivial
theorem hd.tw16456969618363192440 : True := trivial
theorem hd.tw16477043939570097188 : True := trivial
theorem hd.tw16502264421070913907 : True := trivial
theorem hd.tw16640546478005224243 : True := trivial
theorem hd.tw16649331688326792143 : True := trivial
theorem hd.tw1666387254794493845 : True := trivial
theorem hd.tw16694946328126371552 : True := trivial
theorem hd.tw16713699803418581334 : True := trivial
theorem hd.tw16722109127936396110 : True := trivial
theorem hd.tw16772102934027710169 : True := trivial
theorem hd.tw16794629799341752650 : True := trivial
theorem hd.tw1681696941657834858 : True := trivial
theorem hd.tw16828841361933241965 : True := trivial
theorem hd.tw16833337497108226308 : True := trivial
theorem hd.tw16853341256802265648 : True := trivial
theorem hd.tw16858285156579221889 : True := trivial
theorem hd.tw16868993833207775613 : True := trivial
theorem hd.tw16904818350239718627 : True := trivial
theorem hd.tw16919406825032445293 : True := trivial
theorem hd.tw16945582573551092051 : True := trivial
theorem hd.tw16970440968685349367 : True := trivial
theorem hd.tw17001982702790524580 : True := trivial
theorem hd.tw17036954124816465846 : True := trivial
theorem hd.tw17054507655720011243 : True := trivial
theorem hd.tw17065117259998071890 : True := trivial
theorem hd.tw17087091549796120035 : True := trivial
theorem hd.tw17130151131035750659 : True := trivial
theorem hd.tw17177331786930743035 : True := trivial
theorem hd.tw17183224562656869120 : True := trivial
theorem hd.tw17213754286329925777 : True := trivial
theorem hd.tw17252143746492648416 : True := trivial
theorem hd.tw17330132731328240911 : True := trivial
theorem hd.tw17336936450418997793 : True := trivial
theorem hd.tw17377529257436501650 : True := trivial
theorem hd.tw17420951861521290806 : True := trivial
theorem hd.tw17429513623812275283 : True := trivial
theorem hd.tw17447410573909459338 : True := trivial
theorem hd.tw17454471701868102899 : True := trivial
theorem hd.tw17471934795394947791 : True := trivial
theorem hd.tw17491280204586788870 : True := trivial
theorem hd.tw17491317419825422843 : True := trivial
theorem hd.tw17542962492245011380 : True := trivial
theorem hd.tw17562767543260142214 : True := trivial
theorem hd.tw17574625026820762457 : True := trivial
theorem hd.tw17588044629489971554 : True := trivial
theorem hd.tw17599816209265215132 : True := trivial
theorem hd.tw1760603350576429475 : True := trivial
theorem hd.tw17606422857730326317 : True := trivial
theorem hd.tw17628472586750557451 : True := trivial
theorem hd.tw17650839729002327288 : True := trivial
theorem hd.tw17672654358674132775 : True := trivial
theorem hd.tw17673860158736603733 : True := trivial
theorem hd.tw17681399029576232318 : True := trivial
theorem hd.tw17695526420721276508 : True := trivial
theorem hd.tw17703440808498902325 : True := trivial
theorem hd.tw17711083657039698284 : True := trivial
theorem hd.tw17739348878880393726 : True := trivial
theorem hd.tw1781861727890032366 : True := trivial
theorem hd.tw17843490464661113860 : True := trivial
theorem hd.tw17893044597097874663 : True := trivial
theorem hd.tw17895171251205151618 : True := trivial
theorem hd.tw17901334829092211166 : True := trivial
theorem hd.tw17902569758825723728 : True := trivial
theorem hd.tw17903497710992402801 : True := trivial
theorem hd.tw17925215291927510665 : True := trivial
theorem hd.tw1792636949448641307 : True := trivial
theorem hd.tw17948085552500728524 : True := trivial
theorem hd.tw17950676927832955104 : True := trivial
theorem hd.tw17975533764899295144 : True := trivial
theorem hd.tw17986969038992634876 : True := trivial
theorem hd.tw1800889605409440832 : True := trivial
theorem hd.tw18103342009636024947 : True := trivial
theorem hd.tw18103420901670897651 : True := trivial
theorem hd.tw18166333605607142505 : True := trivial
theorem hd.tw18241275227582772068 : True := trivial
theorem hd.tw18264374347568628810 : True := trivial
theorem hd.tw18268791191939849864 : True := trivial
theorem hd.tw18291419657060728153 : True := trivial
theorem hd.tw18293732401869909652 : True := trivial
theorem hd.tw18293851220164018083 : True := trivial
theorem hd.tw18300207936620678264 : True := trivial
theorem hd.tw18343703819029505601 : True := trivial
theorem hd.tw1836080755315867724 : True := trivial
theorem hd.tw1847840615245081061 : True := trivial
theorem hd.tw185848376630758926 : True := trivial
theorem hd.tw1865391376527767206 : True := trivial
theorem hd.tw190519026028168232 : True := trivial
theorem hd.tw1954109241102656831 : True := trivial
theorem hd.tw1997569388931296116 : True := trivial
theorem hd.tw2000490053193787569 : True := trivial
theorem hd.tw2012604805713927918 : True := trivial
theorem hd.tw2040990291671593033 : True := trivial
theorem hd.tw2051048951616859547 : True := trivial
theorem hd.tw2068664650715991707 : True := trivial
theorem hd.tw2101469004524951375 : True := trivial
theorem hd.tw2114630138375439770 : True := trivial
theorem hd.tw212345690472687942 : True := trivial
theorem hd.tw2134215046882385847 : True := trivial
theorem hd.tw2167537188350426706 : True := trivial
theorem hd.tw2195365466389143174 : True := trivial
theorem hd.tw2216850387143573719 : True := trivial
theorem hd.tw2252305205657439004 : True := trivial
theorem hd.tw22551697357593593 : True := trivial
theorem hd.tw226724450230711188 : True := trivial
theorem hd.tw2274498078352570744 : True := trivial
theorem hd.tw2284436838669742495 : True := trivial
theorem hd.tw2295870552580634182 : True := trivial
theorem hd.tw2304311442786299043 : True := trivial
theorem hd.tw2315301623876862497 : True := trivial
theorem hd.tw2321503477829929318 : True := trivial
theorem hd.tw2323474266016966308 : True := trivial
theorem hd.tw2327210489368252092 : True := trivial
theorem hd.tw2329189449893159454 : True := trivial
theorem hd.tw2350461534499220515 : True := trivial
theorem hd.tw2386827423013361158 : True := trivial
theorem hd.tw2391449824757734642 : True := trivial
theorem hd.tw243823211424636713 : True := trivial
theorem hd.tw2442259710966052079 : True := trivial
theorem hd.tw2448417245163862455 : True := trivial
theorem hd.tw2457190517430149469 : True := trivial
theorem hd.tw2480057099694739299 : True := trivial
theorem hd.tw2483235414948986876 : True := trivial
theorem hd.tw250903467453971090 : True := trivial
theorem hd.tw2603259988358896889 : True := trivial
theorem hd.tw2608437505485318709 : True := trivial
theorem hd.tw262745018181394680 : True := trivial
theorem hd.tw2631028645324459753 : True := trivial
theorem hd.tw2708950531961675432 : True := trivial
theorem hd.tw2781682124601125471 : True := trivial
theorem hd.tw2783992281797965187 : True := trivial
theorem hd.tw2788664435532181463 : True := trivial
theorem hd.tw280609765759037681 : True := trivial
theorem hd.tw2845679848157327705 : True := trivial
theorem hd.tw2867327485932766208 : True := trivial
theorem hd.tw2886944701177904103 : True := trivial
theorem hd.tw2887051446865420828 : True := trivial
theorem hd.tw2930668341846507884 : True := trivial
theorem hd.tw2951005344575393816 : True := trivial
theorem hd.tw2999033326186475339 : True := trivial
theorem hd.tw3008623586974134963 : True := trivial
theorem hd.tw3039998526598829958 : True := trivial
theorem hd.tw307737655149646647 : True := trivial
theorem hd.tw3085183777334472315 : True := trivial
theorem hd.tw3182187488490625086 : True := trivial
theorem hd.tw3219085151875037572 : True := trivial
theorem hd.tw3229955645248102723 : True := trivial
theorem hd.tw3309697970292668127 : True := trivial
theorem hd.tw3381375190539634487 : True := trivial
theorem hd.tw3404104791013757517 : True := trivial
theorem hd.tw3429492842335990350 : True := trivial
theorem hd.tw3434918251397683217 : True := trivial
theorem hd.tw3442329435671937591 : True := trivial
theorem hd.tw3443669649825651883 : True := trivial
theorem hd.tw3451239065008710300 : True := trivial
theorem hd.tw3452082135128663414 : True := trivial
theorem hd.tw3480954088277226078 : True := trivial
theorem hd.tw3493717111155160527 : True := trivial
theorem hd.tw3530705653197291679 : True := trivial
theorem hd.tw3534257783695129127 : True := trivial
theorem hd.tw3560358224912976901 : True := trivial
theorem hd.tw3646829019195819677 : True := trivial
theorem hd.tw3673089383077640791 : True := trivial
theorem hd.tw3694398316872202419 : True := trivial
theorem hd.tw3704167492566942397 : True := trivial
theorem hd.tw3759623122121258479 : True := trivial
theorem hd.tw3789350110615891812 : True := trivial
theorem hd.tw3795277891434052102 : True := trivial
theorem hd.tw3828038474966422129 : True := trivial
theorem hd.tw3915529967508079626 : True := trivial
theorem hd.tw3922637787740509324 : True := trivial
theorem hd.tw395138700845864316 : True := trivial
theorem hd.tw3953601041324332601 : True := trivial
theorem hd.tw4015398097383911347 : True := trivial
theorem hd.tw4065347644161347641 : True := trivial
theorem hd.tw4068527845204499245 : True := trivial
theorem hd.tw4086058157674990017 : True := trivial
theorem hd.tw4111692666942324129 : True := trivial
theorem hd.tw4115565904173853331 : True := trivial
theorem hd.tw4136554803537287180 : True := trivial
theorem hd.tw4138081844389336918 : True := trivial
theorem hd.tw4159134105002834734 : True := trivial
theorem hd.tw4172343393113369950 : True := trivial
theorem hd.tw4182648748547736412 : True := trivial
theorem hd.tw4225703048834024713 : True := trivial
theorem hd.tw4272726840584523970 : True := trivial
theorem hd.tw4282304852377368616 : True := trivial
theorem hd.tw4292457097857839397 : True := trivial
theorem hd.tw4297731678662094536 : True := trivial
theorem hd.tw4315991029959535628 : True := trivial
theorem hd.tw432457690288141553 : True := trivial
theorem hd.tw4360684699965382250 : True := trivial
theorem hd.tw4363365295628954845 : True := trivial
theorem hd.tw4367231431732253908 : True := trivial
theorem hd.tw4377701919642642989 : True := trivial
theorem hd.tw4383666589626881386 : True := trivial
theorem hd.tw4402725079659364252 : True := trivial
theorem hd.tw442638132926106271 : True := trivial
theorem hd.tw4478166936697009375 : True := trivial
theorem hd.tw4478177076189095293 : True := trivial
theorem hd.tw4478964076566166474 : True := trivial
theorem hd.tw4494801613693538912 : True := trivial
theorem hd.tw4513884756475024261 : True := trivial
theorem hd.tw4523669819894539328 : True := trivial
theorem hd.tw461538923250603899 : True := trivial
theorem hd.tw4642405928176397000 : True := trivial
theorem hd.tw4643362625855044894 : True := trivial
theorem hd.tw4654797750381630734 : True := trivial
theorem hd.tw4702841417184801058 : True := trivial
theorem hd.tw4788038989552484473 : True := trivial
theorem hd.tw4819202231147424091 : True := trivial
theorem hd.tw4851647983119433812 : True := trivial
theorem hd.tw4870687313549177768 : True := trivial
theorem hd.tw4990156530697904881 : True := trivial
theorem hd.tw4993660671451451078 : True := trivial
theorem hd.tw5009564483982726761 : True := trivial
theorem hd.tw5036846961687405229 : True := trivial
theorem hd.tw5130813555471234732 : True := trivial
theorem hd.tw5138769234217329475 : True := trivial
theorem hd.tw5148922909946612681 : True := trivial
theorem hd.tw5167245352685981253 : True := trivial
theorem hd.tw5174551420813472067 : True := trivial
theorem hd.tw5190246844813560578 : True := trivial
theorem hd.tw519851828213033955 : True := trivial
theorem hd.tw5238241317806426387 : True := trivial
theorem hd.tw5245234834050458271 : True := trivial
theorem hd.tw5278057926702712004 : True := trivial
theorem hd.tw5282504435634884242 : True := trivial
theorem hd.tw5283464899586487735 : True := trivial
theorem hd.tw5292301768408028288 : True := trivial
theorem hd.tw5318216170032084099 : True := trivial
theorem hd.tw5343241284826551009 : True := trivial
theorem hd.tw5363564295841288755 : True := trivial
theorem hd.tw5373601922739893978 : True := trivial
theorem hd.tw5388632664720090651 : True := trivial
theorem hd.tw541196102884509978 : True := trivial
theorem hd.tw5416991563250132298 : True := trivial
theorem hd.tw5433107678231618845 : True := trivial
theorem hd.tw5486487638281291605 : True := trivial
theorem hd.tw5505005885091257285 : True := trivial
theorem hd.tw5505332120971382143 : True := trivial
theorem hd.tw5511420028821071320 : True := trivial
theorem hd.tw5513025101015932971 : True := trivial
theorem hd.tw5549315172176941698 : True := trivial
theorem hd.tw5562173858411828344 : True := trivial
theorem hd.tw5567388512258382067 : True := trivial
theorem hd.tw5608270528595127837 : True := trivial
theorem hd.tw5635641802508607975 : True := trivial
theorem hd.tw5638076889948573785 : True := trivial
theorem hd.tw5657824000916062451 : True := trivial
theorem hd.tw5716766192118558609 : True := trivial
theorem hd.tw5732804406350252772 : True := trivial
theorem hd.tw5781342201191254626 : True := trivial
theorem hd.tw5858630264745516266 : True := trivial
theorem hd.tw5899666649113621702 : True := trivial
theorem hd.tw5902613922787404954 : True := trivial
theorem hd.tw5961118342813265553 : True := trivial
theorem hd.tw5976792059365374437 : True := trivial
theorem hd.tw5978321128707920903 : True := trivial
theorem hd.tw5987830557187376847 : True := trivial
theorem hd.tw6019021122589006684 : True := trivial
theorem hd.tw6046454685291232161 : True := trivial
theorem hd.tw6060742912462422084 : True := trivial
theorem hd.tw6082411064634330575 : True := trivial
theorem hd.tw6110047747367080362 : True := trivial
theorem hd.tw6140570298594658328 : True := trivial
theorem hd.tw6164396464334811476 : True := trivial
theorem hd.tw6184208073178115725 : True := trivial
theorem hd.tw6184460063843016694 : True := trivial
theorem hd.tw6186238094035137676 : True := trivial
theorem hd.tw6196171512934965099 : True := trivial
theorem hd.tw6276725880618359904 : True := trivial
theorem hd.tw6291416237084387574 : True := trivial
theorem hd.tw6293948785866598258 : True := trivial
theorem hd.tw6305734824756694309 : True := trivial
theorem hd.tw6320253292602491972 : True := trivial
theorem hd.tw6394381022753523788 : True := trivial
theorem hd.tw6407587892757256292 : True := trivial
theorem hd.tw6411954120941647267 : True := trivial
theorem hd.tw6423634429210846174 : True := trivial
theorem hd.tw6438293893037913957 : True := trivial
theorem hd.tw6442067068224118133 : True := trivial
theorem hd.tw6482722132109649516 : True := trivial
theorem hd.tw6545403380812914513 : True := trivial
theorem hd.tw6547078798241139092 : True := trivial
theorem hd.tw6555240042291301478 : True := trivial
theorem hd.tw6578402527460240241 : True := trivial
theorem hd.tw658494146261299958 : True := trivial
theorem hd.tw6598312636042714100 : True := trivial
theorem hd.tw6627881031435992008 : True := trivial
theorem hd.tw663384727985864361 : True := trivial
theorem hd.tw6683769817339685419 : True := trivial
theorem hd.tw6755925336976613232 : True := trivial
theorem hd.tw6759412095888398321 : True := trivial
theorem hd.tw6761669909254768831 : True := trivial
theorem hd.tw6767318904944593275 : True := trivial
theorem hd.tw6819123309680001836 : True := trivial
theorem hd.tw6820862383352777685 : True := trivial
theorem hd.tw6830512106363814048 : True := trivial
theorem hd.tw6838551448383532254 : True := trivial
theorem hd.tw6868836192036940282 : True := trivial
theorem hd.tw6898005170327248138 : True := trivial
theorem hd.tw6906073325868019850 : True := trivial
theorem hd.tw6931407450589930559 : True := trivial
theorem hd.tw6965799899956892507 : True := trivial
theorem hd.tw697623264460660564 : True := trivial
theorem hd.tw6982297934935202809 : True := trivial
theorem hd.tw6990203504111849199 : True := trivial
theorem hd.tw6998783941825042932 : True := trivial
theorem hd.tw701787995468756871 : True := trivial
theorem hd.tw7023726343779634624 : True := trivial
theorem hd.tw7028611270464810887 : True := trivial
theorem hd.tw7031273417212677730 : True := trivial
theorem hd.tw7068711184596962023 : True := trivial
theorem hd.tw7080932558258925280 : True := trivial
theorem hd.tw7082855905992002993 : True := trivial
theorem hd.tw7120233287515763914 : True := trivial
theorem hd.tw7152984921513172624 : True := trivial
theorem hd.tw7153062008950511462 : True := trivial
theorem hd.tw7270182246851987180 : True := trivial
theorem hd.tw728884934406724761 : True := trivial
theorem hd.tw7289634563603522867 : True := trivial
theorem hd.tw7292484366425897655 : True := trivial
theorem hd.tw7296583596125217682 : True := trivial
theorem hd.tw7317836474542784337 : True := trivial
theorem hd.tw732345407407602841 : True := trivial
theorem hd.tw7354087734392854552 : True := trivial
theorem hd.tw7355570028127101125 : True := trivial
theorem hd.tw7366208706002141716 : True := trivial
theorem hd.tw7369741819223213686 : True := trivial
theorem hd.tw7379015992945566340 : True := trivial
theorem hd.tw7382370116671421104 : True := trivial
theorem hd.tw7492773218913965947 : True := trivial
theorem hd.tw7494724483528729301 : True := trivial
theorem hd.tw7510230149288206974 : True := trivial
theorem hd.tw7512474625130614241 : True := trivial
theorem hd.tw7519716089354478335 : True := trivial
theorem hd.tw7525542149764818722 : True := trivial
theorem hd.tw7534799579077118603 : True := trivial
theorem hd.tw7540655947842036084 : True := trivial
theorem hd.tw7540741092611519060 : True := trivial
theorem hd.tw7541792107247259296 : True := trivial
theorem hd.tw7578210074245671484 : True := trivial
theorem hd.tw7598622570094877466 : True := trivial
theorem hd.tw7610815399733428385 : True := trivial
theorem hd.tw7628703163842673926 : True := trivial
theorem hd.tw7654286748164834634 : True := trivial
theorem hd.tw7676003278276379012 : True := trivial
theorem hd.tw7698358502638924378 : True := trivial
theorem hd.tw7721951785955056133 : True := trivial
theorem hd.tw7746578258024575070 : True := trivial
theorem hd.tw7752767780024739350 : True := trivial
theorem hd.tw7754304195085646258 : True := trivial
theorem hd.tw7763873220885509757 : True := trivial
theorem hd.tw7793673504863384051 : True := trivial
theorem hd.tw7854228177987924090 : True := trivial
theorem hd.tw7880807054014371918 : True := trivial
theorem hd.tw7891253978561527248 : True := trivial
theorem hd.tw7913724409751068003 : True := trivial
theorem hd.tw7914949630228597729 : True := trivial
theorem hd.tw7927469264209771579 : True := trivial
theorem hd.tw8004679753235328684 : True := trivial
theorem hd.tw8015326511298524721 : True := trivial
theorem hd.tw8047900516022102942 : True := trivial
theorem hd.tw8053944837975664402 : True := trivial
theorem hd.tw8068729725432388964 : True := trivial
theorem hd.tw8081886968326746073 : True := trivial
theorem hd.tw8112040973832200146 : True := trivial
theorem hd.tw8117029840178788049 : True := trivial
theorem hd.tw8134915037123179040 : True := trivial
theorem hd.tw8136687328062707162 : True := trivial
theorem hd.tw8184699220007379433 : True := trivial
theorem hd.tw8191903926673212241 : True := trivial
theorem hd.tw8226494294326810461 : True := trivial
theorem hd.tw8228950375871286339 : True := trivial
theorem hd.tw8269573656231971908 : True := trivial
theorem hd.tw8273930003744585626 : True := trivial
theorem hd.tw8343274005884668182 : True := trivial
theorem hd.tw8351282476255451920 : True := trivial
theorem hd.tw8356816923877370021 : True := trivial
theorem hd.tw8428860471423672150 : True := trivial
theorem hd.tw845060206244984605 : True := trivial
theorem hd.tw8457440626546761165 : True := trivial
theorem hd.tw8458067239894703972 : True := trivial
theorem hd.tw8493152586797012548 : True := trivial
theorem hd.tw8516288146210602744 : True := trivial
theorem hd.tw8538877666451538035 : True := trivial
theorem hd.tw8545014587354053640 : True := trivial
theorem hd.tw8587404781116728655 : True := trivial
theorem hd.tw8609351116199087170 : True := trivial
theorem hd.tw8652628183442184457 : True := trivial
theorem hd.tw8671608845466749128 : True := trivial
theorem hd.tw8683856772340465682 : True := trivial
theorem hd.tw8684328023851190084 : True := trivial
theorem hd.tw8727321023445011275 : True := trivial
theorem hd.tw8735263284916673568 : True := trivial
theorem hd.tw876933089483189297 : True := trivial
theorem hd.tw8801323125487838256 : True := trivial
theorem hd.tw881544763273948857 : True := trivial
theorem hd.tw8879563391730754479 : True := trivial
theorem hd.tw8934143017859847078 : True := trivial
theorem hd.tw8959176491354863721 : True := trivial
theorem hd.tw8960069828448710407 : True := trivial
theorem hd.tw8965841893048198262 : True := trivial
theorem hd.tw8977307856219701671 : True := trivial
theorem hd.tw8990313861142287110 : True := trivial
theorem hd.tw9013056391748086436 : True := trivial
theorem hd.tw9073681462420916055 : True := trivial
theorem hd.tw9131607905817354932 : True := trivial
theorem hd.tw9132557439983319658 : True := trivial
theorem hd.tw9153386212771759811 : True := trivial
theorem hd.tw9155422001095189878 : True := trivial
theorem hd.tw9170477692918782315 : True := trivial
theorem hd.tw9184186324627900627 : True := trivial
theorem hd.tw922143313871775805 : True := trivial
theorem hd.tw9228397985900620932 : True := trivial
theorem hd.tw9244321171653502345 : True := trivial
theorem hd.tw9271970288684553227 : True := trivial
theorem hd.tw9277588360372424766 : True := trivial
theorem hd.tw9298403506768410418 : True := trivial
theorem hd.tw9330943631129107780 : True := trivial
theorem hd.tw9345929723534960622 : True := trivial
theorem hd.tw9386895884608548742 : True := trivial
theorem hd.tw9398405308114057262 : True := trivial
theorem hd.tw9421340871869096474 : True := trivial
theorem hd.tw9427301549700849589 : True := trivial
theorem hd.tw9449672872311958731 : True := trivial
theorem hd.tw9459050058782445324 : True := trivial
theorem hd.tw9496365245306024149 : True := trivial
theorem hd.tw9499510787657705874 : True := trivial
theorem hd.tw9555612238305686254 : True := trivial
theorem hd.tw9557236495431379559 : True := trivial
theorem hd.tw9566141503761928105 : True := trivial
theorem hd.tw9577689765879766989 : True := trivial
theorem hd.tw961146359098324282 : True := trivial
theorem hd.tw9617658007855726926 : True := trivial
theorem hd.tw9641152695372364146 : True := trivial
theorem hd.tw9657781627882305391 : True := trivial
theorem hd.tw9702936160620672325 : True := trivial
theorem hd.tw9719896912496429819 : True := trivial
theorem hd.tw9731375825926819010 : True := trivial
theorem hd.tw9741134391959003819 : True := trivial
theorem hd.tw9763420282994701918 : True := trivial
theorem hd.tw9783614193127449063 : True := trivial
theorem hd.tw978945382295711627 : True := trivial
theorem hd.tw9908193460736022307 : True := trivial
theorem hd.tw991583007596301734 : True := trivial
theorem hd.tw9960721518486171458 : True := trivial
theorem hd.tw9983995961361265002 : True := trivial
theorem hd.tw9990345226319884068 : True := trivial
set_option maxHeartbeats 0 in
set_option Elab.async true in
theorem hd : PySem.Challenge.rw_sz0083_01.Holds := by
  k_with "w R" => first | assumption | (refine' sub_cons ?_; k_extra "w R")
  k_with "w z" => ((try simp only [Array.size_push] at *); first | omega | (rename (Array.size _ = _ + List.length _) => hq9; rw [hq9]; omega) | (simp only [List.size_toArray, List.length_nil, Nat.zero_add]; omega))
  k_with "m subscriptTail Name Slice ref ref" => ((k_here; (with_reducible show wpAny _ _ (subscriptTail _ (PySem.Expr.Slice _ _ none _) (Value.ref _) (Value.ref _)) _ _ _); k_dflt (refine' kmk_slice_ints ?fin_F ?fin_N ?fin_l ?fin_p ?fin_q ?fin_i ?fin_m ?fin_c ?_ ?fin_s ?fin_t ?fin_z; (case fin_F => k_asm); (case fin_N => k_asm); (case fin_l => kmk_list); (case fin_p => kmk_part); (case fin_q => kmk_part); (case fin_i => l_ints); (case fin_m => first | exact kmk_upto (by l_ints) (by decide) | exact kmk_from (by l_ints) (Int.natCast_nonneg _)); (case fin_c => kmk_len); (case fin_s => with_unfolding_all rfl); (case fin_t => kmk_pure); (case fin_z => first | exact Nat.le_of_ble_eq_true rfl | exact kmk_sz (by assumption) (by rw [sizeLine_eq]; omega))); intro D' ws' h' F' N' l1 hI' hC' hL'; (try simp only [Int.reduceNeg, Int.neg_neg, Int.reduceToNat] at hI' hC' hL'); (try k_lt l1); (try k_sweep)))
  k_with "m execs cons" => ((k_here; k_dflt (refine' rest_c ?fin_hcs ?fin_hst ?fin_h1 ?fin_h2 ?fin_h3 ?fin_hz ?fin_B ?fin_F ?fin_X ?fin_T ?fin_hd ?fin_hu ?fin_N ?fin_hD ?fin_hI ?fin_hl ?fin_hPE ?_; (case fin_hst => exact rfl); (case fin_F => k_asm); (case fin_hcs => exact rfl); (case fin_h1 => exact fmod_b (by decide)); (case fin_h2 => exact fmod_b (by decide)); (case fin_h3 => exact fmod_b (by decide)); (case fin_hz => exact fmod_b (by decide)); (case fin_B => k_asm); (case fin_X => k_asm); (case fin_T => k_asm); (case fin_hd => decide +kernel); (case fin_hu => decide +kernel); (case fin_N => k_asm); (case fin_hD => k_mem); (case fin_hI => assumption); (case fin_hl => exact five rfl); (case fin_hPE => exact PassesOwn.leaving)); intro h' tk' m' F'))
  w_on
  o_law
  o_head (kHook kk.heap_1 [2, 3, 15, 17, 18, 20, 21, 22, 23, 24, 25, 26, 27, 28, 29, 30, 31, 32, 33, 34, 35, 36, 37, 38, 39, 40, 41, 42, 43, 44, 45, 46, 47, 48, 49, 50, 51, 52, 53, 54, 55, 56, 57, 58, 59, 60, 61, 62, 63, 65, 66, 68, 69, 70, 72, 73, 75, 76, 77, 79, 80, 82, 83, 84, 86, 87, 89, 90, 91, 93, 94, 96, 97, 98, 100, 101, 103, 104, 105, 106, 107, 108, 109, 110, 111, 112, 113, 114, 115, 116, 117, 118, 119, 120, 121, 122, 123, 124, 125, 126, 127, 128, 129, 130, 131, 132, 133, 135, 136, 138, 139, 140, 142, 143, 145, 146, 147, 148, 149, 150, 151, 152, 153, 154, 155, 156, 157, 158, 159, 160, 161, 162, 163, 164, 165, 166, 168, 169, 171, 172, 173, 175, 176, 178, 179, 180, 182, 183, 185, 186, 187, 189, 190, 192, 193, 194, 196, 197, 199, 200, 201, 203, 204, 206, 207, 208, 211, 212, 213, 220, 222, 223, 225, 226, 227, 228, 229, 230, 240, 241, 243, 244, 246, 247, 248, 249, 250, 251, 252, 262, 264, 265, 267, 268, 269, 271, 272, 274, 275, 276, 278, 279, 281, 282, 283, 285, 286, 288, 289, 290, 292, 293, 295, 296, 297, 299, 300, 302, 303, 304, 306, 307, 309, 310, 311, 312, 313, 314, 315, 318, 320, 321, 323, 324, 325, 327, 328, 330, 331, 339, 341, 342, 344, 345, 346, 348, 349, 351, 352, 353, 355, 356, 358, 359, 360, 362, 363, 365, 366, 367, 369, 370, 372, 373, 374, 376, 377, 379, 380, 381, 383, 384, 386, 387, 388, 390, 391, 393, 394, 395, 397, 398, 400, 401, 402, 403, 404, 405, 406, 409, 411, 412, 414, 415, 416, 418, 419, 421, 422, 423, 425, 426, 428, 429, 430, 431, 432, 433, 434, 435, 436, 437, 438, 439, 440, 441, 442, 443, 444, 445, 447, 448, 450, 451, 452, 454, 455, 457, 458, 459, 461, 462, 464, 465, 473, 475, 476, 478, 479, 480, 482, 483, 485, 486, 487, 489, 490, 492, 493, 494, 496, 497, 499, 500, 501, 503, 504, 506, 507, 508, 510, 511, 513, 514, 515, 517, 518, 520, 521, 522, 524, 525, 527, 528, 529, 531, 532, 534, 535, 536, 538, 539, 541, 542, 543, 545, 546, 548, 549, 550, 552, 553, 555, 556, 557, 559, 560, 562, 563, 564, 566, 567, 569, 570, 571, 573, 574, 576, 577, 578, 580, 581, 583, 584, 585, 587, 588, 590, 591, 592, 593, 594, 595, 596, 599, 601, 602, 604, 605, 613, 615, 616, 618, 619, 620, 622, 623, 625, 626, 627, 628, 629, 630, 631, 634, 636, 637, 639, 640, 641, 643, 644, 646, 647, 648, 650, 651, 653, 654, 655, 657, 658, 660, 661, 662, 665, 666] (fun _ => by kernel_rfl))
  case hw => w_witness2
  w_strict (k_go0; (all_goals try k_fold); k_steps)
end
end Mine
theorem PySem.Challenge.cw_sz0083_01_holds : PySem.Challenge.rw_sz0083_01.Holds := by
  exact Mine.hd
