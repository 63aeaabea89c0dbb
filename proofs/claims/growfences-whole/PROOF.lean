import PyProof.Rows.All
import Wide.All
import OpenK.AllK
import Wide.FinOn
import HandS.ForMost
import PySem.Challenge.RW_growfences_k73_whole_open_and_closed_sid
import KE.KDictZip
import HandS.Wide
import HandS.WideBits
import HandS.Walk
import KE.KItemsList
import KE.OsPairComp
import KE.DataMinMax
import HandS.TupSets
import HandS.SortRule
import KE.KSortKeySt
import PyProof.NsMap
import HandS.SortKw
import KE.KSuper
import HandS.More
import KE.KStateDown
import Lean
import HandS.WordsExc
import HandS.Defaults
import HandS.Head0
import HandS.Head1
import HandS.Head2
import HandS.HeadEnd
import HandS.HeadHook1
import HandS.HeadHook2
import HandS.Evl
import HandS.Style
import HandS.Conv
import HandS.IsInst
import HandS.TupLe
import HandS.Deep
set_option Elab.async false
set_option linter.all false
set_option maxRecDepth 100000
namespace GF
open PySem L2
def top (i : Nat) : Stmt := PySem.Challenge.pw_growfences_k73_whole_open_and_closed_sid.main.body.getD i (.Pass ⟨0, 0, 0, 0⟩)
abbrev s_wall : Stmt := top 0
abbrev s_floor_sum : Stmt := top 2
abbrev s_round_up : Stmt := top 3
abbrev s_bezout : Stmt := top 4
abbrev s_InvalidFence_init : Stmt := inClass (top 11) 0
abbrev s_is_integer : Stmt := top 17
abbrev s_is_between : Stmt := top 18
abbrev s_are_integers : Stmt := top 19
abbrev s_common_divisor : Stmt := top 20
abbrev s_turn_at : Stmt := top 21
abbrev s_is_place : Stmt := top 22
abbrev s_are_around : Stmt := top 23
abbrev s_are_corners : Stmt := top 24
abbrev s_sides_of : Stmt := top 25
abbrev s_are_sides : Stmt := top 26
abbrev s_fence_fault : Stmt := top 27
abbrev s_require_fence : Stmt := top 28
abbrev s_require_size : Stmt := top 29
abbrev s_require_integer : Stmt := top 30
abbrev s_require_side : Stmt := top 31
abbrev s_require_point : Stmt := top 32
abbrev s_pairs_around : Stmt := top 34
abbrev s_span_of : Stmt := top 35
abbrev s_span_count : Stmt := top 36
abbrev s_low_height : Stmt := top 37
abbrev s_edges_of : Stmt := top 38
abbrev s_edge_sum : Stmt := top 39
abbrev s_Outline_init : Stmt := inClass (top 40) 0
abbrev s_Outline_is_corner_stake : Stmt := inClass (top 40) 1
abbrev s_Outline_side_span : Stmt := inClass (top 40) 2
abbrev s_Outline_side_stakes : Stmt := inClass (top 40) 3
abbrev s_Outline_holds : Stmt := inClass (top 40) 4
abbrev s_Outline_row_ends : Stmt := inClass (top 40) 5
abbrev s_Outline_row_span : Stmt := inClass (top 40) 6
abbrev s_Grown_init : Stmt := inClass (top 41) 0
abbrev s_Grown_closed_below : Stmt := inClass (top 41) 1
abbrev s_Grown_shut_below : Stmt := inClass (top 41) 2
abbrev s_Grown_below : Stmt := inClass (top 41) 3
abbrev s_count_of : Stmt := top 42
abbrev s_stake_count : Stmt := top 44
abbrev s_side_count : Stmt := top 45
abbrev s_holds_stake : Stmt := top 46
abbrev s_below_count : Stmt := top 47
abbrev s_law_pool : Stmt := top 49
abbrev s_law_draw : Stmt := top 50
abbrev s_law_turn : Stmt := top 51
abbrev s_law_corners : Stmt := top 52
abbrev s_law_ten : Stmt := top 53
abbrev s_law_plot : Stmt := top 54
abbrev s_law_box : Stmt := top 55
abbrev s_law_is_stake : Stmt := top 56
abbrev s_law_on_open : Stmt := top 57
abbrev s_law_one_more_right : Stmt := top 58
abbrev s_law_spots_right : Stmt := top 59
abbrev s_law_right : Stmt := top 60
abbrev s_law : Stmt := top 61
end GF
set_option Elab.async false
set_option linter.all false
set_option maxRecDepth 100000
set_option maxHeartbeats 4000000
/-! Rules of our own: powers of great numbers, floor division by any great divisor, an attribute as one of several targets, list(zip(..)). -/
namespace GF
open PySem PySem.Spec PyProof.Rows L2
section
variable {X : Cx}
/-- a power with a small exponent -/
def CPowW (i j : Int) : Prop := 0 ≤ j ∧ (Builtin.Int.intBits i : Int) * j ≤ 2 ^ 27
theorem op_powW : OpR X (binaryOp .Pow) (rI CPowW fun i j => .int (i ^ j.toNat)) := opI fun _ _ _ _ _ _ _ hc q => pow_int hc.1 hc.2 q
/-- a floor division, the divisor not 0 -/
def CDivX (_ j : Int) : Prop := j ≠ 0 ∧ j.natAbs.log2 < 9000
theorem op_fdivX : OpR X (binaryOp .FloorDiv) (rI CDivX fun i j => .int (i.fdiv j)) := opI fun _ _ _ _ _ _ _ hc q => floordiv_int hc.1 q (.inl (PyProof.noPylong_of_log2 hc.2))
theorem divX_ok {i j : Int} {b : Nat} (h : j ≠ 0) (hb : j.natAbs < 2 ^ b) (h0 : 0 < b) (h9 : b ≤ 9000) : CDivX i j := ⟨h, Nat.lt_of_lt_of_le (PySem.Flt.log2_lt_of h0 hb) h9⟩
theorem divP_ok {i j : Int} {b : Nat} (h : 0 < j) (hb : j.natAbs < 2 ^ b) (h0 : 0 < b) (h9 : b ≤ 9000) : CDivP i j := ⟨h, PyProof.noPylong_of_log2 (Nat.lt_of_lt_of_le (PySem.Flt.log2_lt_of h0 hb) h9)⟩
theorem powW_ok {i : Int} {j : Nat} {n : Nat} (h : i.natAbs < 2 ^ n) (hn : (n + 1) * j ≤ 134217728) : CPowW i (j : Int) := by
  refine ⟨Int.natCast_nonneg _, ?_⟩
  have b : Builtin.Int.intBits i ≤ n + 1 := by
    unfold Builtin.Int.intBits
    split
    · omega
    · rename_i hne
      have : i.natAbs.log2 ≤ n := by
        by_cases h0 : 0 < n
        · exact Nat.le_of_lt (PySem.Flt.log2_lt_of h0 h)
        · have e : n = 0 := by omega
          subst e
          have : i.natAbs = 0 := by omega
          rw [this]
          decide
      omega
  have h2 : (Builtin.Int.intBits i) * j ≤ 134217728 := Nat.le_trans (Nat.mul_le_mul_right _ b) hn
  have e : (2 : Int) ^ 27 = ((134217728 : Nat) : Int) := by decide
  rw [e, ← Int.natCast_mul]
  exact Int.ofNat_le.mpr h2

/-- o.f as a target among several -/
def gFld (K : PySem.W.Frag) (to : TE) (f : Str) : TG := fun v σ H Q => to σ H fun x H1 => ∃ a C dx fs, x = .ref a ∧ H1 a = some (.ins C dx fs) ∧ Cls K C ∧ NoAttr K C f ∧ fs.length < 1000 ∧ Q σ (upd H1 a (.ins C dx (putF f v fs)))
theorem pg_fld {o : Expr} {to : TE} {f : Str} {pos : Pos} (ho : PE X o to) : PG X (.Attribute o f pos) (gFld X.K to f) := by
  refine ⟨fun pins s σ H v u Q I r h => ?_⟩
  rw [arm_assign_Attribute]
  refine wpAny_bind (wpAny_holding (thn (ho.run pins s σ H _ I h) fun ov s1 ⟨x, H1, I1, r1, a, C, dx, fs, ex, ea, c, n, l, q⟩ => ?_))
  subst ex
  obtain rfl : ov = Value.ref a := r1
  refine wpAny_bind (wpAny_standAt (wpAny_bind (wpAny_holding (setattr_ok I1 ea c n l r fun s2 I2 => ?_))))
  exact wpAny_release ⟨σ, _, I2, q⟩
end
end GF
set_option Elab.async false
set_option linter.all false
set_option maxRecDepth 100000
set_option maxHeartbeats 4000000
namespace GF.Zl
open PySem PySem.Spec PyProof.Rows
/-- a zip over two lists, k turns behind it; S: the list that it fills -/
structure ZS (h : Heap) (z TI TO i1 i2 l1 l2 S : Addr) (xs ys : Array Value) (k : Nat) : Prop where
  ti : IsPair h TI (.ref i1) (.ref i2)
  t1 : h.IsListIter i1 l1 k
  t2 : h.IsListIter i2 l2 k
  s1 : h.IsList l1 xs
  s2 : h.IsList l2 ys
  st : (IsZip h z TI TO .none ∧ IsPair h TO .none .none) ∨ ∃ T f oT, IsZipHeld h z TI TO T f ∧ h.get? T = some oT ∧ T ≠ S ∧ T ≠ z ∧ T ≠ i1 ∧ T ≠ i2
section
variable {prog : Program} {w : World} {A : Around} {E : Value → Shared → Prop} {s : Shared} {z TI TO i1 i2 l1 l2 S : Addr} {xs ys : Array Value}
theorem ZS.stay {h h' : Heap} {k : Nat} (a : ZS h z TI TO i1 i2 l1 l2 S xs ys k) (hk : ∀ c o, c ≠ S → h.get? c = some o → h'.get? c = some o) (n1 : z ≠ S) (n2 : TI ≠ S) (n3 : TO ≠ S) (n4 : i1 ≠ S) (n5 : i2 ≠ S) (n6 : l1 ≠ S) (n7 : l2 ≠ S) :
    ZS h' z TI TO i1 i2 l1 l2 S xs ys k := by
  refine ⟨hk _ _ n2 a.ti, a.t1.at fun o e => hk _ o n4 e, a.t2.at fun o e => hk _ o n5 e, a.s1.at fun o e => hk _ o n6 e, a.s2.at fun o e => hk _ o n7 e, ?_⟩
  rcases a.st with ⟨p, q⟩ | ⟨T, f, oT, p, q, ne, r⟩
  · exact .inl ⟨hk _ _ n1 p, hk _ _ n3 q⟩
  · exact .inr ⟨T, f, oT, hk _ _ n1 p, hk _ _ ne q, ne, r⟩
theorem lt_it {h : Heap} {i l : Addr} {k : Nat} (x : h.IsListIter i l k) : i < h.objs.size := by
  obtain ⟨o, e, _⟩ := x
  exact Heap.lt_size e
theorem z_item {k : Nat} {x y : Value} {Q : Option Value → Shared → Prop} (D : ZipApart z TI TO i1 i2 l1 l2) (a : ZS s.heap z TI TO i1 i2 l1 l2 S xs ys k) (hS : S < s.heap.objs.size) (hx : xs[k]? = some x) (hy : ys[k]? = some y)
    (hQ : ∀ h', ZS h' z TI TO i1 i2 l1 l2 S xs ys (k + 1) → IsPair h' s.heap.objs.size x y → h'.objs.size = s.heap.objs.size + 1 → (∀ c o, c ≠ z → c ≠ TO → c ≠ i1 → c ≠ i2 → s.heap.get? c = some o → h'.get? c = some o) →
      Q (some (.ref s.heap.objs.size)) { s with heap := h' }) : wpAny (model prog w) A (pyNext (.ref z)) Q E s := by
  have nS : s.heap.objs.size ≠ S := Nat.ne_of_gt hS
  have m1 : s.heap.objs.size ≠ i1 := Nat.ne_of_gt (lt_it a.t1)
  have m2 : s.heap.objs.size ≠ i2 := Nat.ne_of_gt (lt_it a.t2)
  rcases a.st with ⟨p, q⟩ | ⟨T, f, oT, p, q, ne, t1, t2, t3⟩
  · refine wpAny_pyNext_zip_item D p a.ti q a.t1 a.t2 a.s1 a.s2 hx hy fun h' b1 b2 b3 b4 b5 b6 b7 => hQ h' ⟨b7 _ _ D.TIz D.TITO D.TIi1 D.TIi2 a.ti, b3, b4, a.s1.at fun o e => b7 _ o D.l1z D.l1TO D.l1i1 D.l1i2 e, a.s2.at fun o e => b7 _ o D.l2z D.l2TO D.l2i1 D.l2i2 e, .inr ⟨s.heap.objs.size, false, _, b1, b5, nS, Nat.ne_of_gt (Heap.lt_size p), m1, m2⟩⟩ b5 b6 b7
  · refine wpAny_pyNext_zip_item_held D p q a.ti a.t1 a.t2 a.s1 a.s2 hx hy fun h' b1 b3 b4 b5 b6 b7 => hQ h' ⟨b7 _ _ D.TIz D.TIi1 D.TIi2 a.ti, b3, b4, a.s1.at fun o e => b7 _ o D.l1z D.l1i1 D.l1i2 e, a.s2.at fun o e => b7 _ o D.l2z D.l2i1 D.l2i2 e, .inr ⟨T, true, oT, b1, b7 _ _ t1 t2 t3 q, ne, t1, t2, t3⟩⟩ b5 b6 fun c o c1 _ c3 c4 e => b7 c o c1 c3 c4 e
theorem z_end {k : Nat} {Q : Option Value → Shared → Prop} (hh : A.handled = none) (D : ZipApart z TI TO i1 i2 l1 l2) (a : ZS s.heap z TI TO i1 i2 l1 l2 S xs ys k) (hend : xs[k]? = none ∨ ys[k]? = none)
    (hQ : ∀ h', (∀ c o, c ≠ z → c ≠ TO → c ≠ i1 → c ≠ i2 → s.heap.get? c = some o → h'.get? c = some o) → Q none { s with heap := h' }) : wpAny (model prog w) A (pyNext (.ref z)) Q E s := by
  rcases a.st with ⟨p, q⟩ | ⟨T, f, oT, p, q, ne, t1, t2, t3⟩
  · exact wpAny_pyNext_zip_end hh D p a.ti q a.t1 a.t2 a.s1 a.s2 hend fun h' hk => hQ h' hk
  · exact wpAny_pyNext_zip_end_held hh D p q a.ti a.t1 a.t2 a.s1 a.s2 hend fun h' hk => hQ h' fun c o c1 _ c3 c4 e => hk c o c1 c3 c4 e
/-- the pairs that were given out: new tuples, one behind another -/
structure ZG (xs ys : Array Value) (lo : Addr) (h : Heap) (as : List Addr) : Prop where
  rise : as.Pairwise (· < ·)
  above : ∀ a ∈ as, lo < a
  pairs : ∀ (j : Nat) (a : Addr), as[j]? = some a → ∃ x y, xs[j]? = some x ∧ ys[j]? = some y ∧ IsPair h a x y
theorem ZG.there {lo : Addr} {h : Heap} {as : List Addr} (g : ZG xs ys lo h as) {a : Addr} (ha : a ∈ as) : a < h.objs.size := by
  obtain ⟨j, hj⟩ := List.mem_iff_getElem?.mp ha
  obtain ⟨_, _, _, _, e⟩ := g.pairs j a hj
  exact Heap.lt_size e
/-- all stand below S -/
structure Low (z TI TO i1 i2 l1 l2 S : Addr) : Prop where
  a : z < S
  b : TI < S
  c : TO < S
  d : i1 < S
  e : i2 < S
  f : l1 < S
  g : l2 < S
theorem z_loop {R : Result → Shared → Prop} {n : Nat} (hh : A.handled = none) (D : ZipApart z TI TO i1 i2 l1 l2) (L : Low z TI TO i1 i2 l1 l2 S) (hn1 : xs.size = n) (hn2 : ys.size = n) (hn : n ≤ sizeLine) (res : Value) {h0 : Heap}
    (hR : ∀ h' tk acc c as, (∀ b o, b ≠ S → b ≠ z → b ≠ TO → b ≠ i1 → b ≠ i2 → h0.get? b = some o → h'.get? b = some o) → h'.get? S = some { cls := .type "list", dict := none, data := .seq acc c, slots := #[] } → as.length = n → ZG xs ys S h' as →
      acc.toList = as.map Value.ref → R (.ok (.ret res)) { s with heap := h', toks := tk }) :
    ∀ (k i : Nat) (h : Heap) (tk c : Nat) (acc : Array Value) (as : List Addr), n - i = k → i ≤ n → ZS h z TI TO i1 i2 l1 l2 S xs ys i → (∀ b o, b ≠ S → b ≠ z → b ≠ TO → b ≠ i1 → b ≠ i2 → h0.get? b = some o → h.get? b = some o) →
      h.get? S = some { cls := .type "list", dict := none, data := .seq acc c, slots := #[] } → acc.toList = as.map Value.ref → as.length = i → ZG xs ys S h as →
      codeAny (model prog w) A (.builtin "list.extend.loop" ⟨[.ref S, .ref z, res], []⟩) R { s with heap := h, toks := tk } := by
  have nz : S ≠ z := Nat.ne_of_gt L.a
  have nTO : S ≠ TO := Nat.ne_of_gt L.c
  have n1 : S ≠ i1 := Nat.ne_of_gt L.d
  have n2 : S ≠ i2 := Nat.ne_of_gt L.e
  intro k
  induction k with
  | zero =>
    intro i h tk c acc as hk hi hst hkeep hS hacc hal hG
    have hin : i = n := by omega
    refine codeAny_builtin PySem.F.entry_extend_loop (?_ : wpAny _ _ _ _ _ _)
    rw [Around.under_plainId PySem.F.plain_extend_loop _]
    show wpAny _ A.in1 (pyNext (.ref z) >>= _) _ _ _
    refine wpAny_bind (z_end (s := { s with heap := h, toks := tk }) (A := A.in1) hh D hst (.inl (Array.getElem?_eq_none (by omega))) fun h' hk' => ?_)
    refine wpAny_pure (hR h' tk acc c as (fun b o h1 h2 h3 h4 h5 e => hk' b o h2 h3 h4 h5 (hkeep b o h1 h2 h3 h4 h5 e)) (hk' S _ nz nTO n1 n2 hS) (by omega) ⟨hG.rise, hG.above, fun j a hj => ?_⟩ hacc)
    obtain ⟨x, y, e1, e2, e3⟩ := hG.pairs j a hj
    have hb := hG.above a (List.mem_of_getElem? hj)
    exact ⟨x, y, e1, e2, hk' a _ (Nat.ne_of_gt (Nat.lt_trans L.a hb)) (Nat.ne_of_gt (Nat.lt_trans L.c hb)) (Nat.ne_of_gt (Nat.lt_trans L.d hb)) (Nat.ne_of_gt (Nat.lt_trans L.e hb)) e3⟩
  | succ k ih =>
    intro i h tk c acc as hk hi hst hkeep hS hacc hal hG
    have hlt : i < n := by omega
    obtain ⟨x, hx⟩ : ∃ x, xs[i]? = some x := ⟨xs[i]'(by omega), Array.getElem?_eq_getElem (by omega)⟩
    obtain ⟨y, hy⟩ : ∃ y, ys[i]? = some y := ⟨ys[i]'(by omega), Array.getElem?_eq_getElem (by omega)⟩
    have hsz : acc.size = i := by rw [← Array.length_toList, hacc, List.length_map, hal]
    refine codeAny_builtin PySem.F.entry_extend_loop (?_ : wpAny _ _ _ _ _ _)
    rw [Around.under_plainId PySem.F.plain_extend_loop _]
    show wpAny _ A.in1 (pyNext (.ref z) >>= _) _ _ _
    have hSl : S < h.objs.size := Heap.lt_size hS
    refine wpAny_bind (z_item (s := { s with heap := h, toks := tk }) (S := S) D hst hSl hx hy fun h' hst' ht hz hkp => ?_)
    dsimp only at ht hz hkp ⊢
    have hS' := hkp S _ nz nTO n1 n2 hS
    have up : ∀ b o, b ≠ S → h'.get? b = some o → (h'.update S (Obj.mapSeq (·.push (Value.ref h.objs.size)))).get? b = some o := fun b o hb e => (Heap.get?_update_other _ _ (Ne.symm hb)).trans e
    show wpAny _ A.in1 (updateSeq S (·.push (Value.ref h.objs.size)) >>= _) _ _ _
    refine wpAny_bind ?_
    refine wpAny_updateSeq hS' rfl (wpAny_pure ⟨plainId_quiet PySem.F.plain_extend_loop _, ih (i + 1) _ tk _ (acc.push (Value.ref h.objs.size)) (as ++ [h.objs.size]) (by omega) hlt
      (hst'.stay up (Nat.ne_of_lt L.a) (Nat.ne_of_lt L.b) (Nat.ne_of_lt L.c) (Nat.ne_of_lt L.d) (Nat.ne_of_lt L.e) (Nat.ne_of_lt L.f) (Nat.ne_of_lt L.g))
      (fun b o h1 h2 h3 h4 h5 e => up b o h1 (hkp b o h2 h3 h4 h5 (hkeep b o h1 h2 h3 h4 h5 e))) (Heap.get?_update_self _ hS' rfl) (by rw [Array.toList_push, hacc, List.map_append]; rfl) (by rw [List.length_append, hal]; rfl) ⟨?_, ?_, ?_⟩⟩) (by rw [hsz]; omega) (by show (acc.push (Value.ref h.objs.size)).size ≤ sizeLine + 1; rw [Array.size_push, hsz]; omega)
    · refine List.pairwise_append.mpr ⟨hG.rise, List.pairwise_singleton _ _, fun a ha b hb => ?_⟩
      rw [List.mem_singleton.mp hb]
      exact hG.there ha
    · intro a ha
      rcases List.mem_append.mp ha with ha | ha
      · exact hG.above a ha
      · rw [List.mem_singleton.mp ha]; exact hSl
    · intro j b hj
      rcases Nat.lt_trichotomy j as.length with g1 | g1 | g1
      · rw [List.getElem?_append_left g1] at hj
        obtain ⟨x', y', e1, e2, e3⟩ := hG.pairs j b hj
        have hb := hG.above b (List.mem_of_getElem? hj)
        exact ⟨x', y', e1, e2, up b _ (Nat.ne_of_gt hb) (hkp b _ (Nat.ne_of_gt (Nat.lt_trans L.a hb)) (Nat.ne_of_gt (Nat.lt_trans L.c hb)) (Nat.ne_of_gt (Nat.lt_trans L.d hb)) (Nat.ne_of_gt (Nat.lt_trans L.e hb)) e3)⟩
      · subst g1
        have hb : h.objs.size = b := by simpa using hj
        subst hb
        exact ⟨x, y, by rw [hal]; exact hx, by rw [hal]; exact hy, up _ _ (Nat.ne_of_gt hSl) ht⟩
      · have hnone : (as ++ [h.objs.size])[j]? = none := List.getElem?_eq_none (by rw [List.length_append, List.length_singleton]; omega)
        rw [hnone] at hj; cases hj
theorem zip_len : typeLookup (.type "zip") "__len__" = pure none := am_miss_of_fast (by decide +kernel)
theorem zip_hint : typeLookup (.type "zip") "__length_hint__" = pure none := am_miss_of_fast (by decide +kernel)
theorem z_extend {R : Result → Shared → Prop} {n : Nat} (hh : A.handled = none) (D : ZipApart z TI TO i1 i2 l1 l2) (L : Low z TI TO i1 i2 l1 l2 S) (hn1 : xs.size = n) (hn2 : ys.size = n) (hn : n ≤ sizeLine) (res : Value) (c0 : Nat)
    (hst : ZS s.heap z TI TO i1 i2 l1 l2 S xs ys 0) (hzip : IsZip s.heap z TI TO .none) (hS : s.heap.get? S = some { cls := .type "list", data := .seq #[] c0 })
    (hR : ∀ h' tk acc c as, (∀ b o, b ≠ S → b ≠ z → b ≠ TO → b ≠ i1 → b ≠ i2 → s.heap.get? b = some o → h'.get? b = some o) → h'.get? S = some { cls := .type "list", dict := none, data := .seq acc c, slots := #[] } → as.length = n → ZG xs ys S h' as →
      acc.toList = as.map Value.ref → R (.ok (.ret res)) { s with heap := h', toks := tk }) :
    wpAny (model prog w) A.in1 (Builtin.List.listExtendWith (.ref S) (.ref z) res)
      (fun fin s' => match fin with | .done f => R (.ok f) s' | .again c' => c'.quiet = true ∧ codeAny (model prog w) A c' R s') (fun e s' => R (.error e) s') s := by
  have hT : s.TypeIs (.ref z) "zip" := ⟨_, hzip, rfl⟩
  have nS : S ≠ z := Nat.ne_of_gt L.a
  unfold Builtin.List.listExtendWith
  refine wpAny_bind (wpAny_typeOf hT ?_)
  have h1 : Builtin.List.listSameRef (.ref S) (.ref z) = false := by simp [Builtin.List.listSameRef, nS]
  have h2 : (Value.type "zip" == Value.type "list") = false := by decide
  have h3 : (Value.type "zip" == Value.type "tuple") = false := by decide
  simp only [h1, h2, h3, Bool.or_false, Bool.false_eq_true, if_false]
  refine wpAny_bind (wpAny_pyIter_zip hzip ?_)
  refine wpAny_bind (wpAny_holding ?_)
  unfold Builtin.List.listLengthHint
  refine wpAny_bind (wpAny_specialOf hT zip_len ?_)
  show wpAny _ A.in1 (specialOf (Value.ref z) (Str.ofString "__length_hint__") >>= _) _ _ _
  refine wpAny_bind (wpAny_specialOf hT zip_hint ?_)
  refine wpAny_pure ?_
  show wpAny _ A.in1 (rule "list.extend.makes-room" >>= fun _ => Builtin.List.listTouch (.ref S) >>= fun _ => again (.builtin "list.extend.loop" ⟨[.ref S, .ref z, res], []⟩)) _ _ _
  refine wpAny_bind (wpAny_rule ?_)
  refine wpAny_bind ?_
  show wpAny _ A.in1 (updateSeq S (·.push .none) >>= fun _ => updateSeq S (·.pop)) _ _ _
  refine wpAny_bind (wpAny_updateSeq hS rfl ?_)
  have hS2 := Heap.get?_update_self (Obj.mapSeq (·.push Value.none)) hS rfl
  refine wpAny_updateSeq (hz := by seq_fits) hS2 rfl ?_
  have hS3 := Heap.get?_update_self (Obj.mapSeq (·.pop)) hS2 rfl
  have oth : ∀ b o, b ≠ S → s.heap.get? b = some o → ((s.heap.update S (Obj.mapSeq (·.push Value.none))).update S (Obj.mapSeq (·.pop))).get? b = some o :=
    fun b o hb e => (Heap.get?_update_other _ _ (Ne.symm hb)).trans ((Heap.get?_update_other _ _ (Ne.symm hb)).trans e)
  refine wpAny_pure ⟨plainId_quiet PySem.F.plain_extend_loop _, ?_⟩
  refine z_loop (s := s) (xs := xs) (ys := ys) (h0 := s.heap) hh D L hn1 hn2 hn res hR n 0 _ _ _ #[] [] (by omega) (Nat.zero_le _)
    (hst.stay oth (Nat.ne_of_lt L.a) (Nat.ne_of_lt L.b) (Nat.ne_of_lt L.c) (Nat.ne_of_lt L.d) (Nat.ne_of_lt L.e) (Nat.ne_of_lt L.f) (Nat.ne_of_lt L.g)) (fun b o hb _ _ _ _ e => oth b o hb e) hS3 rfl rfl ⟨List.Pairwise.nil, (fun _ ha => nomatch ha), fun j a hj => ?_⟩
  simp at hj
end
end GF.Zl
set_option Elab.async false
set_option linter.all false
set_option maxRecDepth 100000
set_option maxHeartbeats 4000000
namespace GF.Zl
open PySem PySem.Spec PyProof.Rows
section
variable {prog : Program} {w : World} {A : Around} {E : Value → Shared → Prop} {s : Shared} {l1 l2 : Addr} {xs ys : Array Value}
/-- list(zip object), just made over two lists of one length; h: the heap ahead of the zip -/
theorem z_call {Q : Value → Shared → Prop} {n m : Nat} {h0 : Heap} (hh : A.handled = none) (hm : h0.objs.size = m) (hn1 : xs.size = n) (hn2 : ys.size = n) (hn : n ≤ sizeLine) (b1 : l1 < m) (b2 : l2 < m) (hsz : s.heap.objs.size = m + 5)
    (hz : IsZip s.heap (m + 4) (m + 2) (m + 3) .none) (hTI : IsPair s.heap (m + 2) (.ref m) (.ref (m + 1))) (hTO : IsPair s.heap (m + 3) .none .none) (hi1 : s.heap.IsListIter m l1 0) (hi2 : s.heap.IsListIter (m + 1) l2 0) (hl1 : s.heap.IsList l1 xs) (hl2 : s.heap.IsList l2 ys)
    (hk0 : ∀ b o, h0.get? b = some o → s.heap.get? b = some o)
    (hQ : ∀ h' tk acc c as, (∀ b o, h0.get? b = some o → h'.get? b = some o) → h'.get? (m + 5) = some { cls := .type "list", dict := none, data := .seq acc c, slots := #[] } → as.length = n → ZG xs ys (m + 5) h' as →
      acc.toList = as.map Value.ref → Q (.ref (m + 5)) { s with heap := h', toks := tk }) :
    wpAny (model prog w) A (call (.type "list") [.ref (m + 4)]) Q E s := by
  have D : ZipApart (m + 4) (m + 2) (m + 3) m (m + 1) l1 l2 := zipApart_new b1 b2
  have L : Low (m + 4) (m + 2) (m + 3) m (m + 1) l1 l2 (m + 5) := ⟨Nat.lt_succ_self _, Nat.add_lt_add_left (by decide) m, Nat.add_lt_add_left (by decide) m, Nat.lt_add_of_pos_right (by decide), Nat.add_lt_add_left (by decide) m, Nat.lt_of_lt_of_le b1 (Nat.le_add_right _ _), Nat.lt_of_lt_of_le b2 (Nat.le_add_right _ _)⟩
  refine callType_codes (Q₁ := fun obj s1 => obj = .ref (m + 5) ∧ s1 = { s with heap := s.heap.push { cls := .type "list", data := .seq #[] } }) PySem.F.called_list (PySem.F.typeCall_list_1 _) PySem.F.entry_list_init (code_list_new _ ⟨by rw [hsz], rfl⟩) fun obj s1 e1 => ?_
  obtain ⟨rfl, rfl⟩ := e1
  have hS : (s.heap.push { cls := .type "list", data := .seq #[] }).get? (m + 5) = some { cls := .type "list", data := .seq #[] } := by rw [← hsz]; exact Heap.get?_push_size _ rfl
  refine ⟨⟨_, hS, rfl⟩, PySem.F.args_list_init_2 _ _, ?_⟩
  show wpAny (model prog w) A.in1.in1 (do let old ← Builtin.List.listItems (.ref (m + 5)); Builtin.List.listUpdate (.ref (m + 5)) (fun _ => #[]); letGo old.toList.reverse; Builtin.List.listExtendWith (.ref (m + 5)) (.ref (m + 4)) .none) _ _ _
  refine wpAny_bind ?_
  unfold Builtin.List.listItems
  refine wpAny_bind (wpAny_seqItems hS rfl (wpAny_pure ?_))
  show wpAny _ _ (updateSeq (m + 5) (fun _ => #[]) >>= fun _ => letGo (#[] : Array Value).toList.reverse >>= fun _ => Builtin.List.listExtendWith (.ref (m + 5)) (.ref (m + 4)) .none) _ _ _
  refine wpAny_bind (wpAny_updateSeq hS rfl ?_)
  obtain ⟨c0, hS2⟩ : ∃ c0, ((s.heap.push { cls := .type "list", data := .seq #[] }).update (m + 5) (Obj.mapSeq (fun _ => (#[] : Array Value)))).get? (m + 5) = some { cls := .type "list", data := .seq #[] c0 } := ⟨_, Heap.get?_update_self (Obj.mapSeq (fun _ => (#[] : Array Value))) hS rfl⟩
  have oth : ∀ b o, b ≠ m + 5 → s.heap.get? b = some o → ((s.heap.push { cls := .type "list", data := .seq #[] }).update (m + 5) (Obj.mapSeq (fun _ => (#[] : Array Value)))).get? b = some o :=
    fun b o hb e => (Heap.get?_update_other _ _ (Ne.symm hb)).trans (Heap.get?_push_of_some _ e)
  refine wpAny_bind (wpAny_letGo ?_)
  refine z_extend (prog := prog) (w := w) (A := A.in1) (R := wants (fun r s2 => r = Value.none ∧ Q (Value.ref (m + 5)) s2) E) (s := { s with heap := (s.heap.push { cls := .type "list", data := .seq #[] }).update (m + 5) (Obj.mapSeq (fun _ => (#[] : Array Value))) }) (n := n) (xs := xs) (ys := ys) hh D L hn1 hn2 hn .none c0 (ZS.stay (h := s.heap) ⟨hTI, hi1, hi2, hl1, hl2, .inl ⟨hz, hTO⟩⟩ oth (Nat.ne_of_lt L.a) (Nat.ne_of_lt L.b) (Nat.ne_of_lt L.c) (Nat.ne_of_lt L.d) (Nat.ne_of_lt L.e) (Nat.ne_of_lt L.f) (Nat.ne_of_lt L.g))
    (oth _ _ (Nat.ne_of_lt L.a) hz) hS2 fun h' tk acc c as hk hS' hl hG hacc => ⟨rfl, ?_⟩
  refine hQ h' tk acc c as (fun b o e => ?_) hS' hl hG hacc
  have lt : b < m := by rw [← hm]; exact Heap.lt_size e
  have ne : ∀ j, b ≠ m + j := fun j => Nat.ne_of_lt (Nat.lt_of_lt_of_le lt (Nat.le_add_right _ _))
  exact hk b o (ne 5) (ne 4) (ne 3) (ne 0) (ne 1) (oth b o (ne 5) (hk0 b o e))
end
end GF.Zl
namespace GF
open PySem PySem.Spec PyProof.Rows L2
/-- tuples of two at these addresses -/
def putP : Hp → List Addr → List (V × V) → Hp
  | H, a :: as, p :: ps => putP (upd H a (.tup [p.1, p.2])) as ps
  | H, _, _ => H
theorem putP_off {b : Addr} : ∀ (as : List Addr) (ps : List (V × V)) (H : Hp), b ∉ as → putP H as ps b = H b
  | [], _, _, _ => rfl
  | _ :: _, [], _, _ => rfl
  | a :: as, p :: ps, H, h => by
    show putP (upd H a (.tup [p.1, p.2])) as ps b = H b
    rw [putP_off as ps _ (fun z => h (List.mem_cons_of_mem _ z)), upd_ne (fun z => h (by rw [z]; exact List.mem_cons_self))]
theorem putP_at : ∀ (as : List Addr) (ps : List (V × V)) (H : Hp), as.length = ps.length → as.Nodup → Paired (fun (t : Addr) (p : V × V) => putP H as ps t = some (.tup [p.1, p.2])) as ps
  | [], [], _, _, _ => .nil
  | [], _ :: _, _, h, _ => by cases h
  | _ :: _, [], _, h, _ => by cases h
  | a :: as, p :: ps, H, h, hn => by
    have hn' := List.nodup_cons.mp hn
    refine .cons ?_ (putP_at as ps (upd H a (.tup [p.1, p.2])) (Nat.succ.inj h) hn'.2)
    show putP (upd H a (.tup [p.1, p.2])) as ps a = some (.tup [p.1, p.2])
    rw [putP_off as ps _ hn'.1, upd_same]
theorem refs_vals : ∀ as : List Addr, Vals (as.map V.ref) (as.map Value.ref)
  | [] => .nil
  | _ :: as => .cons rfl (refs_vals as)
theorem pd_mem {α β : Type} {F : α → β → Prop} : ∀ {xs : List α} {ys : List β}, Paired F xs ys → ∀ {x : α}, x ∈ xs → ∃ (j : Nat) (y : β), xs[j]? = some x ∧ ys[j]? = some y ∧ F x y
  | _, _, .cons h t, x, hx => by
    rcases List.mem_cons.mp hx with e | hx
    · rw [e]
      exact ⟨0, _, rfl, rfl, h⟩
    · obtain ⟨j, y, e1, e2, e3⟩ := pd_mem t hx
      exact ⟨j + 1, y, e1, e2, e3⟩
section
variable {X : Cx}
theorem pairs_laid {pins : List (Addr × Obj)} {σ : L2.St} {H : Hp} {s : Shared} {h' : Heap} {tk m : Nat} {xs ys : List V} {us ws : List Value} {acc : Array Value} {c : Nat} {as : List Addr} (I : Inv X pins σ H s) (hm : s.heap.objs.size = m) (rx : Vals xs us) (ry : Vals ys ws) (he : xs.length = ys.length) (hz : xs.length ≤ sizeLine)
    (hk : ∀ b o, s.heap.get? b = some o → h'.get? b = some o) (hS : h'.get? (m + 5) = some { cls := .type "list", dict := none, data := .seq acc c, slots := #[] }) (hl : as.length = xs.length) (hG : Zl.ZG us.toArray ws.toArray (m + 5) h' as) (hacc : acc.toList = as.map Value.ref) :
    ∃ H' : Hp, Same H H' ∧ H (m + 5) = none ∧ H' (m + 5) = some (.lst (as.map V.ref)) ∧ Paired (fun (t : Addr) (q : V × V) => H' t = some (.tup [q.1, q.2])) as (xs.zip ys) ∧ Inv X pins σ H' { s with heap := h', toks := tk } := by
  have lz : (xs.zip ys).length = xs.length := by rw [List.length_zip]; omega
  have hSn : m + 5 ∉ as := fun z => Nat.lt_irrefl _ (hG.above _ z)
  have nd : as.Nodup := List.Pairwise.imp (fun {a b} (h : a < b) => Nat.ne_of_lt h) hG.rise
  have new : ∀ t ∈ as, H t = none := fun t ht => I.hok.fresh (by rw [hm]; exact Nat.le_trans (Nat.le_add_right m 5) (Nat.le_of_lt (hG.above t ht)))
  have newS : H (m + 5) = none := I.hok.fresh (by rw [hm]; exact Nat.le_add_right _ _)
  have atP := putP_at as (xs.zip ys) (upd H (m + 5) (.lst (as.map V.ref))) (by omega) nd
  have off : ∀ b, b ∉ as → b ≠ m + 5 → putP (upd H (m + 5) (.lst (as.map V.ref))) as (xs.zip ys) b = H b := fun b h1 h2 => by rw [putP_off as _ _ h1, upd_ne h2]
  have ltm : ∀ {b o}, s.heap.get? b = some o → b < m := fun {b o} e => by
    rw [← hm]
    exact Heap.lt_size e
  have low : ∀ b o, s.heap.get? b = some o → b ∉ as ∧ b ≠ m + 5 := fun b o e => ⟨fun z => Nat.lt_irrefl _ (Nat.lt_trans (Nat.lt_of_lt_of_le (ltm e) (Nat.le_add_right m 5)) (hG.above b z)), Nat.ne_of_lt (Nat.lt_of_lt_of_le (ltm e) (Nat.le_add_right m 5))⟩
  have kp : ∀ b u, H b = some u → (putP (upd H (m + 5) (.lst (as.map V.ref))) as (xs.zip ys)) b = some u := fun b u e => by
    rw [off b (fun z => by rw [new b z] at e; cases e) (fun z => by rw [z, newS] at e; cases e)]
    exact e
  have eS : putP (upd H (m + 5) (.lst (as.map V.ref))) as (xs.zip ys) (m + 5) = some (.lst (as.map V.ref)) := by rw [putP_off as _ _ hSn, upd_same]
  refine ⟨putP (upd H (m + 5) (.lst (as.map V.ref))) as (xs.zip ys), kp, newS, eS, atP, ?_⟩
  refine I.call' (ch := []) rfl ⟨fun b o q _ _ _ => hk b o q, fun b o q _ _ _ => ⟨o.slots, hk b o q⟩, fun b o q n _ => ?_, fun b o q _ => ⟨o, hk b o q⟩, fun b xs q => kp b _ q, fun b o u q => kp b _ q, fun b ps q => ⟨#[], by rw [kp b _ q]; simp⟩⟩ (fun b u q => ?_) I.bare fun b z => by simp at z
  · obtain ⟨z1, z2⟩ := low b o q
    rw [off b z1 z2]
    exact n
  · by_cases hb : b ∈ as
    · obtain ⟨j, pk, e1, e2, e3⟩ := pd_mem atP hb
      rw [e3] at q
      cases q
      obtain ⟨x, y, f1, f2, f3⟩ := hG.pairs j b e1
      rw [List.getElem?_zip_eq_some] at e2
      obtain ⟨x', g1, r1⟩ := rx.get e2.1
      obtain ⟨y', g2, r2⟩ := ry.get e2.2
      have f1' : us[j]? = some x := by simpa using f1
      have f2' : ws[j]? = some y := by simpa using f2
      rw [g1] at f1'
      rw [g2] at f2'
      cases f1'
      cases f2'
      exact ⟨by show 2 ≤ sizeLine; decide, [x, y], .cons r1 (.cons r2 .nil), ⟨_, f3, rfl, _, rfl⟩⟩
    · by_cases hb2 : b = m + 5
      · rw [hb2] at q ⊢
        rw [eS] at q
        cases q
        refine ⟨by rw [List.length_map]; omega, acc.toList, c, by rw [hacc]; exact refs_vals as, ?_⟩
        rw [Array.toArray_toList]
        exact hS
      · rw [off b hb hb2] at q
        exact (I.hok b u q).stay (fun d v _ y => hk d v y) (fun d y => kp d _ y) fun d xs y => kp d _ y
/-- list(zip(a, b)), two lists of one length -/
def tListZip (K : PySem.W.Frag) (ta : TA) : TE := fun σ H Q => ta σ H fun vs H1 => ∃ a b xs ys, vs = [.ref a, .ref b] ∧ SqL K H1 a xs ∧ SqL K H1 b ys ∧ xs.length = ys.length ∧
  ∀ (H' : Hp) (p : Addr) (ts : List Addr), Same H1 H' → H1 p = none → H' p = some (.lst (ts.map V.ref)) → Paired (fun (t : Addr) (q : V × V) => H' t = some (.tup [q.1, q.2])) ts (xs.zip ys) → Q (.ref p) H'
theorem pe_listZip {e e2 : Expr} {ta : TA} {p p2 pos pos2 : Pos} (hc : X.calm = true) (hg : Gl X "list") (hm : X.mg "list" = none) (hg2 : Gl X "zip") (hm2 : X.mg "zip" = none) (ha : PA X [e, e2] ta)
    (hs : starEach [.Call (.Name "zip" p2) [e, e2] [] pos2] X.env = (false, eval (.Call (.Name "zip" p2) [e, e2] [] pos2) X.env) :: starEach [] X.env := by rfl)
    (hs2 : starEach [e, e2] X.env = (false, eval e X.env) :: starEach [e2] X.env := by rfl) (hpl : (backTo pos2 (starEach [e2] X.env)).any (·.1) = false := by rfl) :
    PE X (.Call (.Name "list" p) [.Call (.Name "zip" p2) [e, e2] [] pos2] [] pos) (tListZip X.K ta) := by
  refine ⟨fun pins s σ H Q I hq => ?_⟩
  refine wpAny_Call_Name_kw (ld_blt I hg hm (by decide +kernel : bootBuiltins "list" = some (.type "list")) ?_)
  refine PyProof.Rows.callWith_type1 ?_ hs rfl
  rw [hs]
  show wpAny _ _ (spliced ((false, eval (.Call (.Name "zip" p2) [e, e2] [] pos2) X.env) :: backTo pos (starEach [] X.env))) _ _ s
  refine Calls.spliced_cons ?_
  refine Call_ (ld_blt I hg2 hm2 PyProof.Rows.boot_zip (PyProof.Rows.callWith_type1 (thn (ha.run pos2 pins s σ H _ I hq) fun us s1 ⟨vs, H1, I1, r1, q1⟩ => ?_) hs2 hpl))
  obtain ⟨a, b, xs, ys, ex, hqx, hqy, he, q⟩ := q1
  subst ex
  cases r1 with
  | cons r rr =>
    cases rr with
    | cons r' rr =>
      cases rr
      cases r
      cases r'
      obtain ⟨its, rv, p1, hz1⟩ := I1.list hqx
      obtain ⟨its2, rv2, p2, hz2⟩ := I1.list hqy
      refine call_zip_2 p1.isList p2.isList fun h' hz hTI hTO h1 h2 hsz hk => ?_
      refine Calls.spliced_nil ?_
      have e1 : its.toArray.size = xs.length := by rw [List.size_toArray]; exact rv.length.symm
      have e2 : its2.toArray.size = xs.length := by rw [List.size_toArray, he]; exact rv2.length.symm
      refine Zl.z_call (s := { s1 with heap := h' }) (h0 := s1.heap) (n := xs.length) (I1.ok.hd hc) rfl e1 e2 hz1 p1.lt p2.lt hsz hz hTI hTO h1 h2 (p1.isList.at fun o e => hk _ o e) (p2.isList.at fun o e => hk _ o e) hk fun h2' tk acc c as hk2 hS hl hG hacc => ?_
      obtain ⟨H', k1, k2, k3, k4, J⟩ := pairs_laid (tk := tk) I1 rfl rv rv2 he hz1 hk2 hS hl hG hacc
      exact ⟨.ref _, H', J, rfl, q H' _ as k1 k2 k3 k4⟩
end
end GF
set_option Elab.async false
set_option linter.all false
set_option maxRecDepth 100000
set_option maxHeartbeats 4000000
namespace GF
open PySem PySem.Spec PyProof.Rows L2
/-- a pair of ints as data -/
def PD (p : Int × Int) : PyData := .tuple [.int p.1, .int p.2]
def ltP2 (p q : Int × Int) : Prop := p.1 < q.1 ∨ (p.1 = q.1 ∧ p.2 < q.2)
instance : DecidableRel ltP2 := fun p q => by unfold ltP2; exact inferInstance
theorem pd_lt (p q : Int × Int) : PySem.W.dataLt (PD p) (PD q) = decide (ltP2 p q) := by
  have z : PySem.W.dataLt (PD p) (PD q) = (itemLt (.inl 1) (.inl 1) || (!itemLt (.inl 1) (.inl 1) && (itemLt (.inl p.1) (.inl q.1) || (!itemLt (.inl q.1) (.inl p.1) && (itemLt (.inl 1) (.inl 1) || (!itemLt (.inl 1) (.inl 1) && (itemLt (.inl p.2) (.inl q.2) || (!itemLt (.inl q.2) (.inl p.2) && (itemLt (.inl 0) (.inl 0) || (!itemLt (.inl 0) (.inl 0) && false)))))))))) := by
    unfold PySem.W.dataLt PD
    simp only [PySem.W.keyToks, PySem.W.keyToksAll, List.nil_append, List.cons_append, PyProof.Rows.lexLt]
  have b : ∀ m n : Int, itemLt (.inl m) (.inl n) = decide (m < n) := fun m n => rfl
  rw [z]
  simp only [b]
  by_cases h : ltP2 p q
  · rw [decide_eq_true h]
    rcases h with h | ⟨h, h'⟩
    · simp [h]
    · simp [h, h']
  · rw [decide_eq_false h]
    have h1 : ¬ p.1 < q.1 := fun z => h (.inl z)
    by_cases h2 : q.1 < p.1
    · simp [h1, h2]
    · have h3 : ¬ p.2 < q.2 := fun z => h (.inr ⟨by omega, z⟩)
      simp [h1, h2, h3]
theorem pd_alike (p q : Int × Int) : PySem.W.alike (PD p) (PD q) = true := by
  unfold PD
  simp [PySem.W.alike, PySem.W.alikeAll]
theorem pd_depthAll : ∀ ps : List (Int × Int), PyData.depthAll (ps.map PD) ≤ 1
  | [] => by simp [PyData.depthAll]
  | p :: ps => by
    have ih := pd_depthAll ps
    rw [List.map_cons]
    simp only [PyData.depthAll, PD, PyData.depth] at ih ⊢
    simp [PyData.depthAll, PyData.depth] at ih ⊢
    omega
theorem first_best {bt : Nat → Nat → Bool} : ∀ k, (∀ j, j ≤ k → bt j 0 = false) → argBest bt k = 0
  | 0, _ => rfl
  | k + 1, h => by
    unfold argBest
    rw [first_best k fun j hj => h j (Nat.le_succ_of_le hj), h (k + 1) (Nat.le_refl _)]
    rfl
section
variable {X : Cx}
/-- min(xs), xs a list of pairs of ints, the first one the least -/
def rMinFirst (K : PySem.W.Frag) : List V → Hp → VK → Prop := fun vs H Q => ∃ (a : Addr) (x : V) (xs : List V) (p : Int × Int) (ps : List (Int × Int)), vs = [V.ref a] ∧ SqL K H a (x :: xs) ∧ DpAll K H (x :: xs) ((p :: ps).map PD) ∧ (∀ q ∈ p :: ps, ¬ ltP2 q p) ∧ Q x H
theorem cr_minFirst (hc : X.calm = true) (hu : X.A.units + 64 < cLine) : CallR X (.builtin "min") (rMinFirst X.K) := by
  intro pins s σ H vs us Q I r h
  obtain ⟨a, x, xs, p, ps, rfl, hs, hd, hle, q⟩ := h
  obtain ⟨its, rv, hl, _⟩ := I.list hs
  rw [Vals.ref1 r]
  obtain ⟨as, hr⟩ := Dp.readsAll I _ _ _ hd rv
  have hal : PySem.W.AlikeAll ((p :: ps).map PD) := ⟨fun x hx y hy => by
    obtain ⟨x', _, rfl⟩ := List.mem_map.mp hx
    obtain ⟨y', _, rfl⟩ := List.mem_map.mp hy
    exact pd_alike _ _, fun x hx => by
    obtain ⟨x', _, rfl⟩ := List.mem_map.mp hx
    unfold PD
    exact fun z => by cases z⟩
  have hr' : ReadsAll s.heap its.toArray.toList ((p :: ps).map PD) as := by simpa using hr
  have hdep := pd_depthAll (p :: ps)
  have hn0 : 0 < its.toArray.size := by
    rw [List.size_toArray, ← rv.length]
    exact Nat.zero_lt_succ _
  refine call_min_walkH (PySem.W.iter_listW (A := X.A.in1) (I.ok.hd hc) hl.isList fun s2 e W st hfp hw hk => ?_)
  refine ⟨_, _, _, _, _, _, _, s.heap, _, rfl, W, st, hfp, hn0, hw, hk, PySem.W.cmpIn_lt (A := X.A.in1) hr' hal (by show X.A.units + 1 + _ < _; omega), fun v s' hP m => ?_⟩
  obtain ⟨h', tk, rfl, hk'⟩ := PySem.W.moved_old e rfl m
  have fb : argBest (fun i j => PySem.W.dataLt (((p :: ps).map PD).getD i .none) (((p :: ps).map PD).getD j .none)) (its.toArray.size - 1) = 0 := by
    refine first_best _ (fun j hj' => ?_)
    show PySem.W.dataLt (((p :: ps).map PD).getD j .none) (PD p) = false
    have hj : j < (p :: ps).length := by
      have e1 : its.length = (p :: ps).length := by
        have z := PySem.W.readsAll_len hr'
        rw [List.size_toArray, List.length_map] at z
        exact z
      rw [List.size_toArray, e1] at hj'
      rw [List.length_cons] at hj' ⊢
      omega
    have e2 : ((p :: ps).map PD).getD j .none = PD ((p :: ps)[j]) := by
      rw [List.getD_eq_getElem?_getD, List.getElem?_map, List.getElem?_eq_getElem hj]
      rfl
    rw [e2, pd_lt]
    exact decide_eq_false (hle _ (List.getElem_mem hj))
  rw [fb] at hP
  cases rv with
  | cons rx rr =>
    rename_i u us'
    have eu : v = u := by simpa using hP.symm
    rw [eu]
    exact ⟨x, H, I.kept hk', rx, q⟩
end
end GF
set_option Elab.async false
set_option linter.all false
set_option maxRecDepth 100000
set_option maxHeartbeats 4000000
namespace GF
open PySem PySem.Spec PyProof.Rows L2
theorem perm_lift {α β : Type} {f : α → β} {out m : List β} (h : out.Perm m) : ∀ L : List α, m = L.map f → ∃ L' : List α, L'.Perm L ∧ out = L'.map f := by
  induction h with
  | nil =>
    intro L e
    cases L with
    | nil => exact ⟨[], .nil, rfl⟩
    | cons _ _ => cases e
  | cons x p ih =>
    intro L e
    cases L with
    | nil => cases e
    | cons q L =>
      rw [List.map_cons, List.cons.injEq] at e
      obtain ⟨L', h1, h2⟩ := ih L e.2
      exact ⟨q :: L', h1.cons q, by rw [List.map_cons, e.1, h2]⟩
  | swap x y l =>
    intro L e
    cases L with
    | nil => cases e
    | cons q L =>
      cases L with
      | nil => cases e
      | cons r L =>
        rw [List.map_cons, List.map_cons, List.cons.injEq, List.cons.injEq] at e
        exact ⟨r :: q :: L, .swap _ _ _, by rw [List.map_cons, List.map_cons, e.1, e.2.1, e.2.2]⟩
  | trans p1 p2 ih1 ih2 =>
    intro L e
    obtain ⟨L1, h1, h2⟩ := ih2 L e
    obtain ⟨L2, h3, h4⟩ := ih1 L1 h2
    exact ⟨L2, h3.trans h1, h4⟩
/-- the two ints of a tuple of two -/
def two (l : List Int) : Int × Int := (l.getD 0 0, l.getD 1 0)
def keyIn (L : List (Addr × List Int)) (v : Value) : Int × Int := match v with
  | .ref b => (match L.find? (fun q => q.1 == b) with
    | some q => two q.2
    | none => (0, 0))
  | _ => (0, 0)
theorem keyIn_at {L : List (Addr × List Int)} (one : ∀ q ∈ L, ∀ r ∈ L, q.1 = r.1 → q = r) {q : Addr × List Int} (hq : q ∈ L) : keyIn L (.ref q.1) = two q.2 := by
  unfold keyIn
  show (match L.find? (fun r => r.1 == q.1) with | some q => two q.2 | none => (0, 0)) = two q.2
  cases e : L.find? (fun r => r.1 == q.1) with
  | none =>
    have z := List.find?_eq_none.mp e q hq
    simp at z
  | some r =>
    have h1 := List.mem_of_find?_eq_some e
    have h2 := List.find?_some e
    have h3 : r.1 = q.1 := by simpa using h2
    rw [one r h1 q hq h3]
section
variable {P : Program} {w : World} {A : Around} {E : Value → Shared → Prop} {s : Shared}
theorem sorted_setP {a : Addr} {L : List (Addr × List Int)} {es : Array (Int × Value)} {ep : Nat} {t : SetTable} {Q : Value → Shared → Prop} (R : SetTR P w s.heap a L es ep t) (hh : A.handled = none) (hB : ∀ p ∈ L, ∃ x y, p.2 = [x, y])
    (hQ : ∀ s' p (out : Array Value) (c : Nat) (L' : List (Addr × List Int)), (∀ b o, s.heap.get? b = some o → s'.heap.get? b = some o) → s'.gens = s.gens → s'.os = s.os → s.heap.objs.size ≤ p →
      s'.heap.get? p = some (seqObj "list" out c) → out.toList = L'.map (fun q => Value.ref q.1) → L'.Perm L → L'.Pairwise (fun q r => SrtO.lexB (two r.2) (two q.2) = false) → Q (.ref p) s') :
    wpAny (model P w) A (call (.builtin "sorted") [.ref a]) Q E s := by
  obtain ⟨o, ho, hex, hd⟩ := R.ob
  have hsz := R.size
  have hfew := R.few
  have one : ∀ q ∈ L, ∀ r ∈ L, q.1 = r.1 → q = r := fun q hq r hr e => by
    have a1 := R.tup q hq
    have a2 := R.tup r hr
    rw [e] at a1
    exact Prod.ext e (a1.inj a2)
  refine Calls.call_function_entry kind_sorted plain_sorted entry_sorted (args_sorted1 _) (?_ : wpAny _ _ _ _ _ _)
  unfold Builtin.«sorted»
  refine wpAny_bind (m := checkCount "sorted" 1 1 _) (wpAny_pure ?_)
  refine wpAny_bind (collect_set (A := A.in1) hh ⟨o, ho, hex.1, hd⟩ R.fits (by unfold scanBound; omega) R.tab.ris R.led fun s1 vs k1 hz g1 o1 pm => ?_)
  have hes : es.toList.map (·.2) = L.map fun q => Value.ref q.1 := by
    rw [R.rows]
    unfold rowsOf
    rw [List.map_map] <;> rfl
  rw [hes] at pm
  have hvl : vs.length < 64 := by rw [pm.length_eq, List.length_map]; exact hfew
  have hvz : vs.length ≤ sizeLine := by rw [sizeLine_eq]; omega
  refine wpAny_bind (wpAny_newList ?_ hvz)
  have hoL : (s1.heap.push (seqObj "list" vs.toArray 0)).get? s1.heap.objs.size = some (seqObj "list" vs.toArray 0) := Heap.get?_push_size _ rfl
  have hp : ∀ v ∈ vs, Srt.IsPair (s1.heap.push (seqObj "list" vs.toArray 0)) v (keyIn L v).1 (keyIn L v).2 := fun v hv => by
    obtain ⟨q, hq, e⟩ := List.mem_map.mp (pm.mem_iff.mp hv)
    rw [← e, keyIn_at one hq]
    obtain ⟨x, y, e2⟩ := hB q hq
    obtain ⟨oq, items, n, h1, h2, h3, h4⟩ := R.tup q hq
    rw [e2] at h4 ⊢
    have hi := ints_of_items h4
    obtain ⟨u1, u2, he⟩ : ∃ t u, items.toList = [.int x t, .int y u] := by
      generalize items.toList = l at hi
      cases hi with
      | cons k t r =>
        cases r with
        | cons k2 t2 r2 =>
          cases r2
          exact ⟨_, _, rfl⟩
    refine ⟨q.1, oq, u1, u2, n, rfl, Heap.get?_push_of_some _ (k1 _ _ h1), h2, ?_⟩
    rw [h3]
    have : items = #[.int x u1, .int y u2] := Array.toList_inj.mp he
    rw [this]
    rfl
  refine wpAny_bind (wpAny_holding (wpAny_call_entry slot_list_sort ⟨_, hoL, rfl⟩ entry_list_sort (SrtO.list_sort_ord (s := { s1 with heap := s1.heap.push (seqObj "list" vs.toArray 0) }) (SrtO.swo_lex (keyIn L)) hoL hvz
    (fun h2 => SrtO.pairs_sortableO (s := { s1 with heap := s1.heap.push (seqObj "list" vs.toArray 0) }) (by omega) hp fun o e => by
      rw [hoL] at e
      cases e
      exact fun c => absurd (Value.type.inj c) (by decide)) fun out h1 h2 => ⟨.none, rfl, ?_⟩) (args_list_sort _)))
  obtain ⟨L', pL, e'⟩ := perm_lift (h2.perm.trans pm) L rfl
  obtain ⟨c, hc⟩ := sortedHeap_at (vs := vs) (out := out.toArray) hoL
  have pw : L'.Pairwise (fun q r => SrtO.lexB (two r.2) (two q.2) = false) := by
    rw [e'] at h1
    refine List.Pairwise.imp_of_mem (fun {q r} hq hr hle => ?_) (List.pairwise_map.mp h1)
    have f1 := keyIn_at one (pL.mem_iff.mp hq)
    have f2 := keyIn_at one (pL.mem_iff.mp hr)
    rw [← f1, ← f2]
    exact hle
  refine wpAny_pure ⟨_, rfl, hQ _ s1.heap.objs.size out.toArray c L' (fun b u e => ?_) g1 o1 hz hc (by simpa using e') pL pw⟩
  have q := k1 b u e
  have hlt := Heap.lt_size q
  show (sortedHeap (s1.heap.push (seqObj "list" vs.toArray 0)) s1.heap.objs.size vs out.toArray).get? b = some u
  rw [sortedHeap_old (Nat.ne_of_lt hlt) (by rw [size_push']; exact Nat.lt_succ_of_lt hlt)]
  exact Heap.get?_push_of_some _ q
end
section
variable {X : Cx}
/-- sorted(s), s a set of pairs of ints -/
def rSortedSP (K : PySem.W.Frag) (P : Program) (w : World) : List V → Hp → VK → Prop := fun vs H Q => ∃ (a : Addr) (L : List (Addr × List Int)), vs = [V.ref a] ∧ H a = some (SetTO P w a L) ∧ (∀ p ∈ L, SqT K H p.1 (p.2.map V.int)) ∧ (∀ p ∈ L, ∃ x y, p.2 = [x, y]) ∧
  ∀ (L' : List (Addr × List Int)) (p : Addr), L'.Perm L → (L'.map (·.2)).Nodup → L'.Pairwise (fun q r => SrtO.lexB (two r.2) (two q.2) = false) → H p = none → Q (.ref p) (upd H p (.lst (L'.map fun q => V.ref q.1)))
theorem cr_sortedSP (hc : X.calm = true) : CallR X (.builtin "sorted") (rSortedSP X.K X.prog X.w) := by
  intro pins s σ H vs us Q I r h
  obtain ⟨a, L, rfl, ha, hk, hB, q⟩ := h
  have R0 : SetT0 X.prog X.w s.heap a L := (I.hok a _ ha).1
  obtain ⟨es, ep, t, R⟩ := R0.full fun p hp => I.isT (hk p hp)
  rw [Vals.ref1 r]
  refine sorted_setP R (I.ok.hd hc) hB fun s' p out c L' k g o hp hg hout pm pw => ?_
  have hlen : (L'.map fun q => V.ref q.1).length ≤ sizeLine := by
    have := R.few
    rw [List.length_map, sizeLine_eq, pm.length_eq]
    omega
  have hn : H p = none := I.hok.fresh hp
  have hv : Vals (L'.map fun q => V.ref q.1) out.toList := by rw [hout]; exact vals_of_refs L'
  have J : Inv X pins σ (upd H p (.lst (L'.map fun q => V.ref q.1))) { s with heap := s'.heap, gens := s'.gens, drawn := s'.drawn, toks := s'.toks } :=
    I.call (ch := []) (Un.laid k hp hn) (I.hok.laid k hp ⟨hlen, out.toList, c, hv, hg⟩) (by rw [g]; exact I.bare) (fun _ z => nomatch z)
  have e : s' = { s with heap := s'.heap, gens := s'.gens, drawn := s'.drawn, toks := s'.toks } := by
    cases s'
    cases s
    cases o
    rfl
  rw [e]
  exact ⟨.ref p, _, J, rfl, q L' p pm ((pm.map (·.2)).nodup_iff.mpr R.nd) pw hn⟩
end
end GF
set_option Elab.async false
set_option linter.all false
set_option maxRecDepth 100000
set_option maxHeartbeats 4000000
namespace GF
open PySem PySem.Spec PyProof.Rows L2
/-- sorted by keys, equal keys in their order -/
def SortedBy (kz : List Int) (as bs : List Addr) : Prop := ∃ ps : List (Int × Addr), ps.Perm (kz.zip as) ∧ bs = ps.map Prod.snd ∧ ps.Pairwise (fun p q => p.1 ≤ q.1) ∧ ∀ c, ps.filter (fun p => p.1 == c) = (kz.zip as).filter (fun p => p.1 == c)
def addrOf : Value → Addr
  | .ref a => a
  | _ => 0
theorem zip_refs : ∀ (kz : List Int) (as : List Addr), (kz.zip (as.map Value.ref)).map (fun p => (p.1, addrOf p.2)) = kz.zip as
  | [], _ => by simp
  | _ :: _, [] => by simp
  | k :: kz, a :: as => by
    rw [List.map_cons, List.zip_cons_cons, List.map_cons, zip_refs kz as, List.zip_cons_cons]
    rfl
theorem sortedBy_of {kz : List Int} {as : List Addr} {out : List Value} (h : KskOutSt false kz (as.map Value.ref) out) : ∃ bs, out = bs.map Value.ref ∧ SortedBy kz as bs := by
  obtain ⟨ps, h1, h2, h3, h4⟩ := h
  have hr : ∀ p ∈ ps, p.2 = Value.ref (addrOf p.2) := fun p hp => by
    have hm := h1.mem_iff.mp hp
    obtain ⟨b, _, e⟩ := List.mem_map.mp (List.of_mem_zip (show (p.1, p.2) ∈ kz.zip (as.map Value.ref) from hm)).2
    rw [← e]
    rfl
  refine ⟨(ps.map (fun p => (p.1, addrOf p.2))).map Prod.snd, ?_, ps.map (fun p => (p.1, addrOf p.2)), ?_, rfl, ?_, fun c => ?_⟩
  · rw [h2, List.map_map, List.map_map]
    refine List.map_congr_left fun p hp => ?_
    exact hr p hp
  · have := h1.map (fun p : Int × Value => (p.1, addrOf p.2))
    rw [zip_refs] at this
    exact this
  · rw [List.pairwise_map]
    refine List.Pairwise.imp (fun {p q} h => ?_) h3
    simpa using h
  · have e := congrArg (List.map (fun p : Int × Value => (p.1, addrOf p.2))) (h4 c)
    rw [← zip_refs kz as, List.filter_map, List.filter_map]
    exact e
section
variable {X : Cx} {k : Nat} {f : Addr} {fd : FuncData} {ps : List Str} {sp : Sp}
/-- a callee run from within two built-ins -/
theorem run_fn2 {pins : List (Addr × Obj)} {σ : L2.St} {H : Hp} {s : Shared} {Q : VK} {E : XK} {us : List Value} {vs : List V} (F : FnOk X.prog X.w X.K X.mg X.base CX0 k f fd ps sp) (hr : Room k X.A.in1.in1) (hb : Binds X.K fd ps [])
    (I : Inv X pins σ H s) (r : Vals vs us) (h : sp vs H Q E) : wpAny (model X.prog X.w) X.A.in1.in1 (call (.ref f) us) (EP X pins σ Q) (fun _ _ => False) s := by
  have hl : (us ++ []).length = ps.length := by rw [List.append_nil, ← r.length]; exact F.len _ _ _ _ h
  refine wpAny_call (codeAny_mono (F.run X.A.in1.in1 X.stack s H ⟨us, []⟩ (us ++ []) vs Q E hr I.env0.in1.in1 (hb s us I.kIn hl) (by rw [List.append_nil]; exact r) h) fun r s' hq => ?_)
  cases r with
  | error e => exact hq
  | ok fl =>
    cases fl with
    | ret u => exact I.after hq
    | next => exact False.elim hq
    | brk => exact False.elim hq
    | cont => exact False.elim hq
/-- all objects but the frame and two records are kept: from the ledger -/
theorem keep_by {g h h' : Heap} {L a b : Addr} {m : Str → Option Value} {ab : Addr → Bool} (hab : ∀ c, ab c = true ↔ c = a ∨ c = b) (k : ∀ c o, g.get? c = some o → h.get? c = some o) (F : Fr g L h' m) (N : News g L h' ((allNews g h L).filter fun p => !ab p.1)) :
    ∀ c o, c ≠ L → c ≠ a → c ≠ b → h.get? c = some o → h'.get? c = some o := fun c o h1 h2 h3 e => by
  cases q : g.get? c with
  | some u =>
    have z := k c u q
    rw [e] at z
    cases z
    exact F.keep c _ q
  | none =>
    refine (N (c, o) (List.mem_filter.mpr ⟨mem_allNews h1 q e, ?_⟩)).1
    show (!ab c) = true
    cases z : ab c with
    | false => rfl
    | true => exact ((hab c).mp z).elim (fun z => absurd z h2) fun z => absurd z h3
/-- sorted(xs, key=f), f a def of one's own that changes nothing; its answers kz -/
def rSortedBy (K : PySem.W.Frag) (f : Addr) (sp : Sp) : List V → List V → Hp → VK → Prop := fun vs zs H Q => ∃ (a : Addr) (as : List Addr) (kz : List Int), vs = [V.ref a] ∧ zs = [V.ref f] ∧ SqL K H a (as.map V.ref) ∧ kz.length = as.length ∧
  (∀ (i : Nat) (b : Addr) (z : Int), as[i]? = some b → kz[i]? = some z → sp [V.ref b] H (fun v H' => v = .int z ∧ H' = H) E0) ∧ ∀ bs p, SortedBy kz as bs → H p = none → Q (.ref p) (upd H p (.lst (bs.map V.ref)))
theorem cr_sortedBy (F : FnOk X.prog X.w X.K X.mg X.base CX0 k f fd ps sp) (hr : Room k X.A.in1.in1) (hb : Binds X.K fd ps []) : CallRK X (.builtin "sorted") [Str.ofString "key"] (rSortedBy X.K f sp) := by
  intro pins s σ H vs zs us ws Q I r rz h
  obtain ⟨l, as, kz, rfl, rfl, hs, hlen, hsp, q⟩ := h
  obtain ⟨its, rv, hl, hz⟩ := I.list hs
  obtain rfl := Vals.ref1 r
  obtain ⟨w1, rfl, e1⟩ := vals1 rz
  obtain rfl : w1 = Value.ref f := e1
  have hits : its = as.map Value.ref := by
    clear hs hl hz hsp hlen q
    induction as generalizing its with
    | nil => cases rv; rfl
    | cons a as ih =>
      cases rv with
      | cons r1 rr =>
        cases r1
        rw [ih _ rr]
        rfl
  subst hits
  rw [List.length_map] at hz
  have hZ : (as.map Value.ref).length ≤ sizeLine := by rw [List.length_map]; exact hz
  have hZ2 := hz
  rw [sizeLine_eq] at hZ2
  -- sorted: the items in a new list, sorted by the list's own method
  refine call_function_entry_kw kind_sorted plain_sorted entry_sorted (ksk_s1 _ _) (?_ : wpAny _ _ _ _ _ _)
  unfold Builtin.«sorted»
  refine wpAny_bind (m := checkCount "sorted" 1 1 _) (wpAny_pure ?_)
  refine wpAny_bind (collect_list hl.isList ?_ hZ)
  refine wpAny_bind (wpAny_newList ?_ hZ)
  obtain ⟨D, hD⟩ : ∃ D, D = s.heap.objs.size + 1 := ⟨_, rfl⟩
  have hsz : ((s.heap.push (seqObj "list" #[] 0)).update s.heap.objs.size (Obj.mapSeq (· ++ (as.map Value.ref).toArray))).objs.size = D := by rw [Heap.size_update, size_push', hD]
  have hoL : (((s.heap.push (seqObj "list" #[] 0)).update s.heap.objs.size (Obj.mapSeq (· ++ (as.map Value.ref).toArray))).push (seqObj "list" (as.map Value.ref).toArray 0)).get? D = some (seqObj "list" (as.map Value.ref).toArray 0) := by
    rw [← hsz]; exact Heap.get?_push_size _ rfl
  have keep0 : ∀ b o, s.heap.get? b = some o → (((s.heap.push (seqObj "list" #[] 0)).update s.heap.objs.size (Obj.mapSeq (· ++ (as.map Value.ref).toArray))).push (seqObj "list" (as.map Value.ref).toArray 0)).get? b = some o := fun b o e => by
    have lt := Heap.lt_size e
    refine Heap.get?_push_of_some _ ((Heap.get?_update_ne _ _ _ _ (Nat.ne_of_lt lt)).trans (Heap.get?_push_of_some _ e))
  show wpAny _ _ _ _ _ { s with heap := ((s.heap.push (seqObj "list" #[] 0)).update s.heap.objs.size (Obj.mapSeq (· ++ (as.map Value.ref).toArray))).push (seqObj "list" (as.map Value.ref).toArray 0) }
  rw [hsz]
  generalize hh1 : ((s.heap.push (seqObj "list" #[] 0)).update s.heap.objs.size (Obj.mapSeq (· ++ (as.map Value.ref).toArray))).push (seqObj "list" (as.map Value.ref).toArray 0) = h1 at hoL keep0
  have hs1 : h1.objs.size = D + 1 := by rw [← hh1, size_push', hsz]
  refine wpAny_bind (wpAny_holding (wpAny_call_entry_kw slot_list_sort ⟨_, hoL, rfl⟩ entry_list_sort (?_ : wpAny _ _ _ _ _ _) (ksk_l1 _ _)))
  show wpAny (model X.prog X.w) X.A.in1.in1 (Builtin.«list.sort» ⟨[.ref D], [(Str.ofString "key", .ref f)]⟩) _ _ _
  rw [ksk_t1]
  unfold ksk_tree
  refine wpAny_bind (listItems_at hoL rfl ?_)
  refine wpAny_bind (listUpdate_at hoL rfl ?_ (by rw [List.size_toArray]; exact hZ) (Nat.zero_le _))
  obtain ⟨ep, ho1⟩ : ∃ ep, (h1.update D (Obj.mapSeq fun _ => (#[] : Array Value))).get? D = some (seqObj "list" #[] ep) := ⟨_, get?_update_seq hoL fun _ => #[]⟩
  refine wpAny_bind (seqEpoch_at ho1 rfl ?_)
  refine wpAny_bind (wpAny_newTuple ?_ (by show (as.map Value.ref).toArray.toList.length ≤ _; exact hZ))
  refine wpAny_bind (wpAny_newList ?_ (Nat.zero_le _))
  refine wpAny_holding ?_
  have ltD : ∀ {b o}, s.heap.get? b = some o → b < D := fun {b o} e => by rw [hD]; exact Nat.lt_succ_of_lt (Heap.lt_size e)
  have keep2 : ∀ b o, s.heap.get? b = some o → (((h1.update D (Obj.mapSeq fun _ => (#[] : Array Value))).push (seqObj "tuple" (as.map Value.ref).toArray 0)).push (seqObj "list" #[] 0)).get? b = some o := fun b o e =>
    Heap.get?_push_of_some _ (Heap.get?_push_of_some _ ((Heap.get?_update_ne _ _ _ _ (Nat.ne_of_lt (ltD e))).trans (keep0 b o e)))
  have ho2 : (((h1.update D (Obj.mapSeq fun _ => (#[] : Array Value))).push (seqObj "tuple" (as.map Value.ref).toArray 0)).push (seqObj "list" #[] 0)).get? D = some (seqObj "list" #[] ep) := Heap.get?_push_of_some _ (Heap.get?_push_of_some _ ho1)
  have hz2 : ((h1.update D (Obj.mapSeq fun _ => (#[] : Array Value))).push (seqObj "tuple" (as.map Value.ref).toArray 0)).objs.size = D + 2 := by rw [size_push', Heap.size_update, hs1]
  have hoK : (((h1.update D (Obj.mapSeq fun _ => (#[] : Array Value))).push (seqObj "tuple" (as.map Value.ref).toArray 0)).push (seqObj "list" #[] 0)).get? (D + 2) = some (seqObj "list" #[] 0) := by rw [← hz2]; exact Heap.get?_push_size _ rfl
  show wpAny _ _ (ksk_rest D (.ref f) false (as.map Value.ref).toArray ep (.ref ((h1.update D (Obj.mapSeq fun _ => (#[] : Array Value))).push (seqObj "tuple" (as.map Value.ref).toArray 0)).objs.size)) _ _ { s with heap := ((h1.update D (Obj.mapSeq fun _ => (#[] : Array Value))).push (seqObj "tuple" (as.map Value.ref).toArray 0)).push (seqObj "list" #[] 0) }
  rw [hz2]
  generalize ((h1.update D (Obj.mapSeq fun _ => (#[] : Array Value))).push (seqObj "tuple" (as.map Value.ref).toArray 0)).push (seqObj "list" #[] 0) = h2 at ho2 hoK keep2
  -- the keys, one by one
  have I0 : Inv X pins σ H { s with heap := h2 } := I.kept (t' := s.toks) keep2
  have nD : H D = none := I.hok.fresh (by rw [hD]; exact Nat.le_succ _)
  have nK : H (D + 2) = none := I.hok.fresh (by rw [hD]; exact Nat.le_add_right _ 3)
  have fD : D ∉ X.fs := I.nofs (by rw [hD]; exact Nat.le_succ _)
  have fK : D + 2 ∉ X.fs := I.nofs (by rw [hD]; exact Nat.le_add_right _ 3)
  have lD : D ≠ X.env.locals := by
    rw [hD]
    exact Nat.ne_of_gt (Nat.lt_succ_of_lt I.lt)
  have lK : D + 2 ≠ X.env.locals := by
    rw [hD]
    exact Nat.ne_of_gt (Nat.lt_of_lt_of_le I.lt (Nat.le_add_right _ 3))
  have pin_of : ∀ {s' : Shared} {pn : List (Addr × Obj)} {kA : Array Value} {e : Nat}, Inv X pn σ H s' → (∀ p ∈ pins, p ∈ pn) → s'.heap.get? (D + 2) = some (seqObj "list" kA e) → s'.heap.get? D = some (seqObj "list" #[] ep) →
      Inv X ((D + 2, seqObj "list" kA e) :: (D, seqObj "list" #[] ep) :: pins) σ H s' := fun {s' pn kA e} J sub a1 a2 => J.pins_of fun p hp => by
    rcases List.mem_cons.mp hp with rfl | hp
    · exact ⟨a1, nK, lK, fK, fun v z => by cases z⟩
    · rcases List.mem_cons.mp hp with rfl | hp
      · exact ⟨a2, nD, lD, fD, fun v z => by cases z⟩
      · exact J.pin p (List.mem_append_right _ (sub p hp))
  unfold ksk_rest
  refine wpAny_bind (wpAny_rule ?_)
  rw [List.forIn_toArray]
  refine wpAny_bind (ksk_fold (fun i s' => ∃ kA e, Inv X ((D + 2, seqObj "list" kA e) :: (D, seqObj "list" #[] ep) :: pins) σ H s' ∧ IntsAre kA.toList (kz.take i)) (as.map Value.ref) 0 _
    ⟨#[], 0, pin_of I0 (fun _ z => z) hoK ho2, by simpa using IntsAre.nil⟩ ?step ?done)
  case step =>
    rintro j x s' hx ⟨kA, e, J, hk⟩
    simp only [Nat.zero_add] at hk ⊢
    have hj : j < as.length := by
      have z := (List.getElem?_eq_some_iff.mp hx).1
      rw [List.length_map] at z
      exact z
    obtain ⟨z, hkj⟩ : ∃ z, kz[j]? = some z := ⟨_, List.getElem?_eq_getElem (by omega)⟩
    obtain ⟨b, hb1, hb2⟩ : ∃ b, as[j]? = some b ∧ x = Value.ref b := by
      rw [List.getElem?_map] at hx
      cases hq : as[j]? with
      | none => rw [hq] at hx; cases hx
      | some b =>
        rw [hq] at hx
        exact ⟨b, rfl, (Option.some.inj hx).symm⟩
    subst hb2
    have hzk : kA.size ≤ as.length := by
      have h1 := hk.length
      rw [Array.length_toList, List.length_take] at h1
      omega
    refine wpAny_bind (wpAny_attempt (wpAny_mono (run_fn2 F hr hb J (vs := [V.ref b]) (us := [Value.ref b]) (.cons rfl .nil) (hsp j b z hb1 hkj)) (fun v s'' he => ?_) fun _ _ hF => hF.elim))
    obtain ⟨v0, H', J2, rv0, ev, eH⟩ := he
    subst ev
    obtain ⟨t2, rfl⟩ := rv0
    rw [eH] at J2
    have pk := (J2.pin (D + 2, seqObj "list" kA e) (List.mem_append_right _ (.head _))).1
    have pa := (J2.pin (D, seqObj "list" #[] ep) (List.mem_append_right _ (.tail _ (.head _)))).1
    have sb := Heap.SameBut.update s''.heap (D + 2) (Obj.mapSeq (·.push (.int z t2)))
    obtain ⟨c2, hc2⟩ : ∃ c2, (s''.heap.update (D + 2) (Obj.mapSeq (·.push (.int z t2)))).get? (D + 2) = some (seqObj "list" (kA.push (.int z t2)) c2) := ⟨_, get?_update_seq pk (·.push (.int z t2))⟩
    have ek : kz.take (j + 1) = kz.take j ++ [z] := by rw [List.take_add_one, hkj]; simp
    have ea : (kA.push (Value.int z t2)).toList = kA.toList ++ [Value.int z t2] := by simp
    try dsimp only
    refine wpAny_bind (listUpdate_at pk rfl ?_ (by rw [sizeLine_eq]; omega) (Nat.le_trans (Nat.le_of_eq (Array.size_push ..)) (by rw [sizeLine_eq]; omega)))
    refine wpAny_pure ⟨rfl, kA.push (.int z t2), c2, ?_, by rw [ea, ek]; exact ksk_snoc hk⟩
    have J3 : Inv X pins σ H { s'' with heap := s''.heap.update (D + 2) (Obj.mapSeq (·.push (.int z t2))) } := by
      have J2' : Inv X pins σ H s'' := J2.pins_of fun p hp => J2.pin p (List.mem_append_right _ (.tail _ (.tail _ hp)))
      refine J2'.turned (t' := s''.toks) (it := D + 2) (fun b o hb e => (sb.2 b hb).trans e) nK lK (.inr ?_) (fun x c e hc => ?_) (fun p hp hc => ?_)
      · rw [hD]
        exact Nat.le_trans I.sz (Nat.le_add_right _ 3)
      · obtain ⟨v, o, ho, hd⟩ := J2.cell x c e
        rw [hc, pk] at ho
        cases ho
        cases hd
      · rcases List.mem_append.mp hp with hp' | hp'
        · have q1 := (I.pin p hp).1
          have q2 := ltD q1
          rw [hc] at q2
          exact Nat.lt_irrefl _ (Nat.lt_trans q2 (Nat.lt_add_of_pos_right (by decide : 0 < 2)))
        · have q1 := (I.pin p hp).1
          have q2 := ltD q1
          rw [hc] at q2
          exact Nat.lt_irrefl _ (Nat.lt_trans q2 (Nat.lt_add_of_pos_right (by decide : 0 < 2)))
    refine pin_of J3 (fun _ z => z) hc2 ((sb.2 D ?_).trans pa)
    exact Nat.ne_of_lt (Nat.lt_add_of_pos_right (by decide : 0 < 2))
  case done =>
    rintro s' ⟨kA, e, J, hk⟩
    have hk' : IntsAre kA.toList kz := by
      have e3 : kz.take (0 + (as.map Value.ref).length) = kz := List.take_of_length_le (by rw [List.length_map]; omega)
      rw [e3] at hk
      exact hk
    have pk := (J.pin (D + 2, seqObj "list" kA e) (List.mem_append_right _ (.head _))).1
    have pa := (J.pin (D, seqObj "list" #[] ep) (List.mem_append_right _ (.tail _ (.head _)))).1
    have J' : Inv X pins σ H s' := J.pins_of fun p hp => J.pin p (List.mem_append_right _ (.tail _ (.tail _ hp)))
    try dsimp only
    refine wpAny_bind (listItems_at pk rfl ?_)
    obtain ⟨m, Fm⟩ := J.fr
    have lo : ∀ b o, X.base.get? b = some o → b < D := fun b o e => by
      have z := I.bs b o e
      exact ltD z.1
    have n0 : X.base.get? D = none := by
      cases q : X.base.get? D with
      | none => rfl
      | some o => exact absurd (lo _ _ q) (Nat.lt_irrefl _)
    have n2 : X.base.get? (D + 2) = none := by
      cases q : X.base.get? (D + 2) with
      | none => rfl
      | some o => exact absurd (Nat.lt_trans (lo _ _ q) (Nat.lt_add_of_pos_right (by decide : 0 < 2))) (Nat.lt_irrefl _)
    have ne2 : D + 2 ≠ D := Nat.ne_of_gt (Nat.lt_add_of_pos_right (by decide : 0 < 2))
    obtain ⟨ab, hab⟩ : ∃ ab : Addr → Bool, ∀ c, ab c = true ↔ c = D ∨ c = D + 2 := ⟨fun c => decide (c = D ∨ c = D + 2), fun c => decide_eq_true_iff⟩
    have notab : ∀ {c}, (!ab c) = true → c ≠ D ∧ c ≠ D + 2 := fun {c} h => by
      refine ⟨fun e => ?_, fun e => ?_⟩
      · rw [(hab c).mpr (.inl e)] at h
        exact Bool.noConfusion h
      · rw [(hab c).mpr (.inr e)] at h
        exact Bool.noConfusion h
    have NN : News X.base X.env.locals s'.heap ((allNews X.base s'.heap X.env.locals).filter (fun p => !ab p.1) ++ [(D + 2, seqObj "list" kA e), (D, seqObj "list" #[] ep)]) := fun p hp => by
      rcases List.mem_append.mp hp with hp | hp
      · exact news_all p (List.mem_filter.mp hp).1
      · rcases List.mem_cons.mp hp with rfl | hp
        · exact ⟨pk, lK, n2⟩
        · rw [List.mem_singleton.mp hp]
          exact ⟨pa, lD, n0⟩
    refine ksk_end_St (s := s') (kz := kz) (vs := as.map Value.ref) (news := (allNews X.base s'.heap X.env.locals).filter fun p => !ab p.1) Fm NN ne2 (fun p hp => (notab (List.mem_filter.mp hp).2).2) (fun p hp => (notab (List.mem_filter.mp hp).2).1) hk' (by rw [List.length_map]; exact hlen) hZ fun h3 tk3 out c F3 N3 ko => ⟨_, rfl, ?_⟩
    obtain ⟨bs, eo, hbs⟩ := sortedBy_of ko
    have hlen2 : bs.length = as.length := by
      obtain ⟨ps', g1, g2, _⟩ := hbs
      rw [g2, List.length_map, g1.length_eq, List.length_zip]
      omega
    have hDl := (N3 (D, seqObj "list" out c) (.head _)).1
    have kb := keep_by (h := s'.heap) hab J.bk F3 (fun p hp => N3 p (.tail _ hp))
    have kbs : ∀ c o, c ≠ X.env.locals → c ≠ D → c ≠ D + 2 → s'.heap.get? c = some o → h3.get? c = some o := kb
    have hres : Inv X pins σ (upd H D (.lst (bs.map V.ref))) { s' with heap := h3, gens := s'.gens, drawn := s'.drawn, toks := tk3 } := by
      have old : ∀ b o, X.s_0.heap.get? b = some o → b ≠ D ∧ b ≠ D + 2 := fun b o e => by
        have l1 := Nat.lt_of_lt_of_le (Heap.lt_size e) I.sz
        have l2 : b < D := by rw [hD]; exact Nat.lt_succ_of_lt l1
        exact ⟨Nat.ne_of_lt l2, Nat.ne_of_lt (Nat.lt_trans l2 (Nat.lt_add_of_pos_right (by decide : 0 < 2)))⟩
      have chk : ∀ {b : Addr}, (b = D ∨ b = D + 2) → X.s_0.heap.objs.size ≤ b := fun {b} z => by
        rcases z with z | z
        · rw [z, hD]; exact Nat.le_succ_of_le I.sz
        · rw [z, hD]; exact Nat.le_trans I.sz (Nat.le_add_right _ 3)
      have trk : ∀ b u, H b = some u → b ≠ D ∧ b ≠ D + 2 := fun b u e => ⟨ne_of_none e nD, ne_of_none e nK⟩
      refine J'.step (ch := [D, D + 2]) (fun b hb => ?_) (fun b o h1 h2 h3' e n => ?_) (fun b o h1 h2 h3' e n => ⟨o.slots, ?_⟩) (fun b o h1 e n => ?_) (fun b o h1 e => ?_) (fun b xs e => ?_) (fun b o u e => ?_) (fun b ps e => ⟨#[], ?_⟩) (fun m' hm' => ?_) (fun b u e => ?_) J.bare
      · have hb' : b = D ∨ b = D + 2 := by simpa using hb
        refine ⟨.inr (chk hb'), ?_, fun x c e hc => ?_, fun p hp hc => ?_⟩
        · rcases hb' with z | z
          · rw [z]; exact lD
          · rw [z]; exact lK
        · obtain ⟨v, o, ho, hd⟩ := J.cell x c e
          rw [hc] at ho
          rcases hb' with z | z
          · rw [z, pa] at ho; cases ho; cases hd
          · rw [z, pk] at ho; cases ho; cases hd
        · have q2 := ltD (I.pin p hp).1
          rw [hc] at q2
          rcases hb' with z | z
          · rw [z] at q2; exact Nat.lt_irrefl _ q2
          · rw [z] at q2; exact Nat.lt_irrefl _ (Nat.lt_trans q2 (Nat.lt_add_of_pos_right (by decide : 0 < 2)))
      · exact kbs b o h1 (fun z => h3' (by simp [z])) (fun z => h3' (by simp [z])) e
      · exact kbs b o h1 (fun z => h3' (by simp [z])) (fun z => h3' (by simp [z])) e
      · rw [upd_ne (fun z => h1 (by simp [z]))]
        exact n
      · by_cases hb : b = X.env.locals
        · obtain ⟨o', _, _, e', _⟩ := F3.ns
          rw [hb]
          exact ⟨o', e'⟩
        · exact ⟨o, kbs b o hb (fun z => h1 (by simp [z])) (fun z => h1 (by simp [z])) e⟩
      · rw [upd_ne (trk b _ e).1]; exact e
      · rw [upd_ne (trk b _ e).1]; exact e
      · rw [upd_ne (trk b _ e).1, e]; simp
      · have z1 := hm'.eq_nsMap
        have z2 := Fm.ns.eq_nsMap
        rw [z1, ← z2]
        exact F3.ns
      · by_cases hb : b = D
        · subst hb
          rw [upd_same] at e
          cases e
          refine ⟨by rw [List.length_map, hlen2]; exact hz, out.toList, c, by rw [eo]; exact refs_vals bs, ?_⟩
          rw [Array.toArray_toList]
          exact hDl
        · rw [upd_ne hb] at e
          refine (J'.hok b u e).stay (fun c' v hc q => ?_) (fun c' q => by rw [upd_ne (trk c' _ q).1]; exact q) fun c' xs q => by rw [upd_ne (trk c' _ q).1]; exact q
          have hcH : H c' ≠ none := by
            rcases hc with z | z
            · rw [z, e]; exact fun z => by cases z
            · rw [z]; exact fun z => by cases z
          refine kbs c' v (fun z => hcH (by rw [z]; exact J'.free)) (fun z => hcH (by rw [z]; exact nD)) (fun z => hcH (by rw [z]; exact nK)) q
    exact wpAny_pure ⟨_, rfl, .ref D, _, hres, rfl, q bs D hbs nD⟩
end
end GF
set_option Elab.async false
set_option linter.all false
set_option maxRecDepth 100000
set_option maxHeartbeats 4000000
namespace GF
open PySem PySem.Spec PyProof.Rows L2
/-- the names of a method that says super(), its first parameter a cell -/
structure SScope (N : List Str) (sc : Scope) : Prop where
  kind : sc.kind = .function
  co : sc.isCoroutine = false
  gen : sc.isGenerator = false
  nd : N.Nodup
  pre : ∃ r, N = ("self" : Str) :: ("fence" : Str) :: ("size" : Str) :: r
  k0 : sc.names.lookup ("self" : Str) = some .cell
  k1 : sc.names.lookup ("fence" : Str) = some .local
  k2 : sc.names.lookup ("size" : Str) = some .local
  kC : sc.names.lookup ("__class__" : Str) = some .free
  kS : sc.names.lookup ("super" : Str) = some .globalImplicit
  cells : ∀ n cl, cellsFrom n sc.names cl = (("self" : Str), n) :: cl
  push : ∀ h : Heap, pushCells h sc.names = h.push { cls := .type "cell", data := .cell none }
  only : ∀ y ∈ sc.names, (y.2 = .cell → y.1 = "self") ∧ (y.2 = .free → y.1 = "__class__")
abbrev envS (qual : Str) (scope : Scope) (L f cda cc : Addr) : Env := PySem.W.envX qual scope L f (.ref cda) [("self", L + 1), ("__class__", cc)]
/-- its context -/
def cxS (P : Program) (w : World) (K : PySem.W.Frag) (mg : Str → Option Value) (base : Heap) (N : List Str) (qual : Str) (scope : Scope) (f cda cc : Addr) (A : Around) (outer : List Env) (s : Shared) (H : Hp) : Cx where
  prog := P
  w := w
  K := K
  mg := mg
  base := base
  A := A.deeper (envS qual scope s.heap.objs.size f cda cc)
  N := N
  s_0 := s
  H_0 := H
  env := envS qual scope s.heap.objs.size f cda cc
  outer := outer
  stack := envS qual scope s.heap.objs.size f cda cc :: outer
  ex := []
  calm := true
  fn := fun x => decide (x = "self")
  pn := []
  xe := fun _ _ => False
section
variable {P : Program} {w : World} {K : PySem.W.Frag} {mg : Str → Option Value} {base : Heap} {N : List Str} {qual : Str} {scope : Scope} {f cda cc : Addr} {A : Around} {outer : List Env} {s : Shared} {H : Hp}
theorem inv_super {u0 u1 u2 : Value} {v0 v1 v2 : V} {h1 : Heap} {tk : Nat} (S : SScope N scope) (hd : A.handled = none) (e0 : Env0 P w K mg base A outer s H) (r0 : RelV v0 u0) (r1 : RelV v1 u1) (r2 : RelV v2 u2) (hcc : ∃ v, base.IsCell cc v)
    (hk : ∀ b o, s.heap.get? b = some o → h1.get? b = some o) (hns : h1.Ns s.heap.objs.size fun y => if y = "size" then some u2 else if y = "fence" then some u1 else none) (hcell : h1.IsCell (s.heap.objs.size + 1) (some u0)) :
    Inv (cxS P w K mg base N qual scope f cda cc A outer s H) [] (L2.start N [v0, v1, v2]) H { s with heap := h1, toks := tk } := by
  obtain ⟨vc, oc, hoc, hdc⟩ := hcc
  have hcs := e0.bs cc oc hoc
  have lcc : cc < s.heap.objs.size := Heap.lt_size hcs.1
  have noA : ∀ b : Addr, b ∉ (cxS P w K mg base N qual scope f cda cc A outer s H).ex := fun b z => absurd (show b ∈ ([] : List Addr) from z) (by simp)
  have lk : ∀ x c, (cxS P w K mg base N qual scope f cda cc A outer s H).env.cells.lookup x = some c → (x = "self" ∧ c = s.heap.objs.size + 1) ∨ (x = "__class__" ∧ c = cc) := fun x c e => by
    have e' : List.lookup x [(("self" : Str), s.heap.objs.size + 1), ("__class__", cc)] = some c := e
    by_cases h : x = "self"
    · subst h
      simp [List.lookup] at e'
      exact .inl ⟨rfl, e'.symm⟩
    · have h' : (x == ("self" : Str)) = false := by simpa using h
      by_cases h2 : x = "__class__"
      · subst h2
        simp only [List.lookup, h'] at e'
        simp at e'
        exact .inr ⟨rfl, e'.symm⟩
      · have h2' : (x == ("__class__" : Str)) = false := by simpa using h2
        simp only [List.lookup, h', h2'] at e'
        cases e'
  have nC : H (s.heap.objs.size + 1) = none := e0.hok.fresh (Nat.le_succ _)
  obtain ⟨r, hN⟩ := S.pre
  refine ⟨⟨e0.mod, S.kind, rfl, rfl, Nat.le_refl _, fun y z c h1 h2 => ?_, fun y hy => ?_, fun y c hf h => ?_, fun _ => hd, Around.frames_deeper e0.frames, .inr ⟨rfl, rfl⟩, fun b z => absurd z (noA b), e0.bs, e0.bsz, fun b _ _ => noA b, fun b z => absurd z (noA b), e0.funs, e0.frf⟩,
    rfl, e0.bare, Un.kept hk, ⟨_, hns, fun i y v h1 h2 h3 => ?_⟩, fun y c h => ?_, e0.hok.fresh (Nat.le_refl _), fun y c h => ?_, fun p hp => absurd (show p ∈ ([] : List (Addr × Obj)) from hp) (by simp), e0.hok.kept hk, ?_⟩
  · rcases lk y c h1 with ⟨a, b⟩ | ⟨a, b⟩
    · rcases lk z c h2 with ⟨a', b'⟩ | ⟨a', b'⟩
      · rw [a, a']
      · rw [b] at b'
        exact absurd b' (Nat.ne_of_gt (Nat.lt_succ_of_lt lcc))
    · rcases lk z c h2 with ⟨a', b'⟩ | ⟨a', b'⟩
      · rw [b'] at b
        exact absurd b (Nat.ne_of_gt (Nat.lt_succ_of_lt lcc))
      · rw [a, a']
  · have hy : scope.names.lookup y = some .cell ∨ scope.names.lookup y = some .free := hy
    rcases hy with hy | hy
    · have e := (S.only _ (PySem.mem_of_lookup hy)).1 rfl
      exact ⟨s.heap.objs.size + 1, by show List.lookup y [(("self" : Str), s.heap.objs.size + 1), ("__class__", cc)] = _; rw [show y = "self" from e]; simp [List.lookup]⟩
    · have e := (S.only _ (PySem.mem_of_lookup hy)).2 rfl
      exact ⟨cc, by
        show List.lookup y [(("self" : Str), s.heap.objs.size + 1), ("__class__", cc)] = _
        rw [show y = "__class__" from e]
        have z : (("__class__" : Str) == ("self" : Str)) = false := by decide +kernel
        simp [List.lookup, z]⟩
  · rcases lk y c h with ⟨a, b⟩ | ⟨a, b⟩
    · rw [b]
      exact Nat.le_succ _
    · rw [a] at hf
      have hf2 : decide ((Str.ofString "__class__") = Str.ofString "self") = true := hf
      exact absurd (of_decide_eq_true hf2) (by decide +kernel)
  · have h1 : N[i]? = some y := h1
    rw [hN] at h1
    rw [hN] at h2
    match i, h1, h2 with
    | 0, h1, h2 =>
      have e1 : "self" = y := Option.some.inj h1
      subst e1
      have e2 : v0 = v := by simpa [L2.start] using h2
      subst e2
      exact ⟨u0, r0, .inr ⟨.inl S.k0, s.heap.objs.size + 1, by show List.lookup _ [(("self" : Str), s.heap.objs.size + 1), ("__class__", cc)] = _; simp [List.lookup], hcell⟩⟩
    | 1, h1, h2 =>
      have e1 : "fence" = y := Option.some.inj h1
      subst e1
      have e2 : v1 = v := by simpa [L2.start] using h2
      subst e2
      refine ⟨u1, r1, .inl ⟨S.k1, ?_⟩⟩
      have z : ¬ (("fence" : Str) = "size") := by decide +kernel
      simp [z]
    | 2, h1, h2 =>
      have e1 : "size" = y := Option.some.inj h1
      subst e1
      have e2 : v2 = v := by simpa [L2.start] using h2
      subst e2
      exact ⟨u2, r2, .inl ⟨S.k2, by simp⟩⟩
    | i + 3, h1, h2 =>
      have z : (L2.start ("self" :: "fence" :: "size" :: r) [v0, v1, v2])[i + 3]? = (List.replicate r.length (none : Option V))[i]? := by
        simp [L2.start]
      rw [z, List.getElem?_replicate] at h2
      split at h2 <;> cases h2
  · rcases lk y c h with ⟨a, b⟩ | ⟨a, b⟩
    · rw [b]
      exact ⟨_, hcell⟩
    · rw [b]
      exact ⟨vc, oc, hk _ _ hcs.1, hdc⟩
  · rcases lk y c h with ⟨a, b⟩ | ⟨a, b⟩
    · rw [b]
      exact nC
    · rw [b]
      exact hcs.2
  · rw [hN]
    simp [L2.start]
    rfl
end
end GF
set_option Elab.async false
set_option linter.all false
set_option maxRecDepth 100000
set_option maxHeartbeats 4000000
namespace GF
open PySem PySem.Spec PyProof.Rows L2
/-- what the top has left of a method that says super().__init__(..): f it, C its class, f2 the method of the class above -/
structure SupTxt (P : Program) (K : PySem.W.Frag) (C f f2 : Addr) (name qual : Str) (params : Arguments) (body : List Stmt) (scope : Scope) (fd : FuncData) : Prop where
  ex : ∃ (oc : Value) (od : Option Addr) (dV kV doc pm : Value) (an : Option Addr) (cda cc : Addr) (ct : Value) (osl : Array (Option Value)),
    fd = PySem.W.fnX name qual params body scope [("__class__", cc)] dV kV doc pm an (.ref cda) ct ∧ K.lookup f = some ⟨oc, od, .func fd, osl⟩ ∧ PySem.W.codeIn K (.ref cda) qual = true ∧
    (∃ cl cld csl, K.lookup cc = some ⟨cl, cld, .cell (some (.ref C)), csl⟩) ∧
    (∃ ccl cdd vs ccs file tf, K.lookup cda = some ⟨ccl, cdd, .fields vs, ccs⟩ ∧ vs[2]? = some (.str file tf) ∧ ((P.main.file : Str) == file) = true)
  first : ∃ ar, (params.posonlyargs ++ params.args).head? = some ar ∧ ar.arg = "self"
  cls : ∃ cd, PySem.W.clsIn K C = some cd
  sub : PySem.W.mroIn K C (.ref C) = some true
  any : PySem.W.nsIn K cStatics "thirdparty.any" = some none
  at_ : PySem.W.ks_superIn K C C "__init__" = some (some (.ref f2))
  ty : PySem.W.typeIn K (.ref f2) = some (.type "function")
  fi : PySem.W.fnIn K f2 = true
  top : (P.main.scope.names.lookup ("super" : Str)).isSome = false
section
variable {P : Program} {w : World} {K : PySem.W.Frag} {mg : Str → Option Value} {base : Heap} {N : List Str} {name qual : Str} {params : Arguments} {body rest : List Stmt} {scope : Scope} {C f f2 : Addr} {fd fd2 : FuncData} {k : Nat} {sp sp2 : Sp} {p0 p1 p2 p3 p4 p5 p6 : Pos}
theorem ns_ldB {X : Cx} {pins : List (Addr × Obj)} {σ : L2.St} {H : Hp} {s : Shared} {x : Str} {u : Value} {E : Value → Shared → Prop} {Q : Value → Shared → Prop} (I : Inv X pins σ H s) (hg : Gl X x) (hm : X.mg x = none) (hv : bootBuiltins x = some u) (hn : x ≠ "__name__") (h : Q u s) : wpAny (model X.prog X.w) X.A (loadName X.env x) Q E s := by
  obtain ⟨mb, h1, h2⟩ := I.mod.blt
  exact PySem.W.ks_loadName_global I.ok.kind hg (Calls.loadGlobal_builtin (by rw [I.ok.glob]; exact I.mod.glob.keeps I.bk) hm (by rw [I.ok.blt]; exact h1.keeps I.bk) ((h2 x hn).trans hv) h)
theorem fn_super (T : SupTxt P K C f f2 name qual params body scope fd) (S : SScope N scope) (hbd : body = .Expr (.Call (.Attribute (.Call (.Name "super" p0) [] [] p1) "__init__" p2) [.Name "fence" p3, .Name "size" p4] [] p5) p6 :: rest)
    (hev : ∀ env : Env, ∃ pl : Sem Bool, eval (.Call (.Attribute (.Call (.Name "super" p0) [] [] p1) "__init__" p2) [.Name "fence" p3, .Name "size" p4] [] p5) env = (do
      let ov ← attributeBase (.Call (.Name "super" p0) [] [] p1) "__init__" env (eval (.Call (.Name "super" p0) [] [] p1) env)
      standAt p2.atName
      let (f, first) ← holding [ov] (getMethod ov "__init__" pl)
      callWith p5 f first (backTo p5 (starEach [.Name "fence" p3, .Name "size" p4] env)) []))
    (hsw : ∀ env : Env, swapsWith (.Call (.Attribute (.Call (.Name "super" p0) [] [] p1) "__init__" p2) [.Name "fence" p3, .Name "size" p4] [] p5) none p6.line env = pure false)
    (hsup : mg "super" = none) (len : ∀ vs H Q E, sp vs H Q E → ∃ v0 v1 v2, vs = [v0, v1, v2]) (F2 : FnOk P w K mg base CX0 k f2 fd2 ["self", "fence", "size"] sp2) (b2 : Binds K fd2 ["self", "fence", "size"] [])
    (hbody : ∀ (cda cc : Addr) (A : Around) (outer : List Env) (s : Shared) (H : Hp) (v0 v1 v2 : V) (Q : VK) (E : XK), Room k (A.deeper (envS qual scope s.heap.objs.size f cda cc)) → sp [v0, v1, v2] H Q E →
      ∃ x dx fs t, v0 = .ref x ∧ H x = some (.ins C dx fs) ∧ PSs (cxS P w K mg base N qual scope f cda cc A outer s H) rest t ∧ sp2 [.ref x, v1, v2] H (fun _ H2 => t { nx := fun _ H' => Q .non H', rt := Q } (L2.start N [v0, v1, v2]) H2) E0) :
    FnOk P w K mg base CX0 (k + 1) f fd ["self", "fence", "size"] sp := by
  obtain ⟨oc, od, dV, kV, doc, pm, an, cda, cc, ct, osl, rfl, lk, hcd, ⟨cl, cld, csl, hcell⟩, ⟨ccl, cdd, vsc, ccs, file, tf, hco, hvs, hfile⟩⟩ := T.ex
  refine ⟨fun vs H Q E h => by obtain ⟨_, _, _, rfl⟩ := len vs H Q E h; rfl, fun A outer s H args us vs Q E hr e0 hb r hsp => ?_⟩
  obtain ⟨v0, v1, v2, rfl⟩ := len _ _ _ _ hsp
  obtain ⟨u0, u1, u2, rfl, r0, r1, r2⟩ : ∃ u0 u1 u2, us = [u0, u1, u2] ∧ RelV v0 u0 ∧ RelV v1 u1 ∧ RelV v2 u2 := by
    cases r with
    | cons a r =>
      cases r with
      | cons b r =>
        cases r with
        | cons c r =>
          cases r
          exact ⟨_, _, _, rfl, a, b, c⟩
  have KX : K.In s.heap := e0.mod.kin.keeps fun b o e => (e0.bs b o e).1
  have lim : s.heap.NoLimit := e0.mod.nolimit.keeps fun b o e => (e0.bs b o e).1
  obtain ⟨x, dx, fs, t, rfl, hx, ht, hq⟩ := hbody cda cc A outer s H v0 v1 v2 Q E (hr.deeper _) hsp
  obtain rfl : u0 = Value.ref x := r0
  refine codeAny_call_function hr.depth (KX _ _ lk) rfl S.co S.gen rfl (PySem.W.codeRec_of KX hcd) (hb _ _ _ _ ?_)
  show wpAny _ _ (newFunctionEnv scope mainGlobals [("__class__", cc)] [("self", .ref x), ("fence", u1), ("size", u2)] (qual ++ ".<locals>.") (some f) (.ref cda) none builtinsNs) _ _ s
  simp only [newFunctionEnv, Option.isSome_none, Bool.false_eq_true, if_false]
  refine wpAny_bind (wpAny_alloc ?_)
  refine wpAny_bind (wpAny_layCells _ (fun name kind cells => by cases hkc : kind == NameKind.cell <;> simp [hkc]) _ _ _ _ ?_)
  have hsz : (s.heap.push { cls := .type "frame", data := .dict #[] }).objs.size = s.heap.objs.size + 1 := Heap.size_push ..
  rw [show ({ s with heap := s.heap.push { cls := .type "frame", data := .dict #[] } } : Shared).heap.objs.size = s.heap.objs.size + 1 from hsz, S.cells, S.push]
  have hL0 : ((s.heap.push { cls := .type "frame", data := .dict #[] }).push { cls := .type "cell", data := .cell none }).Ns s.heap.objs.size fun _ => none := (Heap.Ns.new s.heap (.type "frame")).keeps fun b o e => Heap.get?_push_of_some _ e
  have hC0 : ((s.heap.push { cls := .type "frame", data := .dict #[] }).push { cls := .type "cell", data := .cell none }).IsCell (s.heap.objs.size + 1) none := ⟨_, by rw [← hsz]; exact Heap.get?_push_size _ rfl, rfl⟩
  have hk0 : ∀ b o, s.heap.get? b = some o → ((s.heap.push { cls := .type "frame", data := .dict #[] }).push { cls := .type "cell", data := .cell none }).get? b = some o := fun b o e => Heap.get?_push_of_some _ (Heap.get?_push_of_some _ e)
  show wpAny _ _ (forIn [(("self" : Str), Value.ref x), ("fence", u1), ("size", u2)] PUnit.unit (fun y _ => do storeName (envS qual scope s.heap.objs.size f cda cc) y.1 y.2; pure (ForInStep.yield PUnit.unit)) >>= fun _ => pure (envS qual scope s.heap.objs.size f cda cc)) _ _ { s with heap := (s.heap.push { cls := .type "frame", data := .dict #[] }).push { cls := .type "cell", data := .cell none } }
  generalize (s.heap.push { cls := .type "frame", data := .dict #[] }).push { cls := .type "cell", data := .cell none } = g0 at hL0 hC0 hk0
  have nCL : s.heap.objs.size ≠ s.heap.objs.size + 1 := Nat.ne_of_lt (Nat.lt_succ_self _)
  have lkS : (envS qual scope s.heap.objs.size f cda cc).cells.lookup ("self" : Str) = some (s.heap.objs.size + 1) := by
    show List.lookup _ [(("self" : Str), s.heap.objs.size + 1), ("__class__", cc)] = _
    simp [List.lookup]
  have lkC : (envS qual scope s.heap.objs.size f cda cc).cells.lookup ("__class__" : Str) = some cc := by
    show List.lookup _ [(("self" : Str), s.heap.objs.size + 1), ("__class__", cc)] = _
    have z : (("__class__" : Str) == ("self" : Str)) = false := by decide +kernel
    simp [List.lookup, z]
  have hcls0 : ((envS qual scope s.heap.objs.size f cda cc).scope.kind == .class || ((envS qual scope s.heap.objs.size f cda cc).scope.kind == .module && (envS qual scope s.heap.objs.size f cda cc).locals != (envS qual scope s.heap.objs.size f cda cc).globals)) = false := by
    show (scope.kind == .class || (scope.kind == .module && _)) = false
    rw [S.kind]
    rfl
  refine wpAny_bind ?_
  rw [List.forIn_cons]
  refine wpAny_bind (wpAny_bind (wpAny_storeName_cell S.kind S.k0 lkS hC0 fun g1 c1 sb1 => wpAny_pure ?_))
  show wpAny _ _ (forIn [(("fence" : Str), u1), ("size", u2)] PUnit.unit _) _ _ _
  rw [List.forIn_cons]
  refine wpAny_bind (wpAny_bind (wpAny_storeName_local (env := envS qual scope s.heap.objs.size f cda cc) S.k1 (hL0.sameBut sb1 nCL) (fun g2 n2 sb2 => wpAny_pure ?_) hcls0))
  show wpAny _ _ (forIn [(("size" : Str), u2)] PUnit.unit _) _ _ _
  rw [List.forIn_cons]
  refine wpAny_bind (wpAny_bind (wpAny_storeName_local (env := envS qual scope s.heap.objs.size f cda cc) S.k2 n2 (fun g3 n3 sb3 => wpAny_pure ?_) hcls0))
  show wpAny _ _ (forIn [] PUnit.unit _) _ _ _
  rw [List.forIn_nil]
  refine wpAny_pure (wpAny_pure ?_)
  have keep : ∀ b o, s.heap.get? b = some o → g3.get? b = some o := fun b o e => by
    have l1 : b ≠ s.heap.objs.size := Nat.ne_of_lt (Heap.lt_size e)
    have l2 : b ≠ s.heap.objs.size + 1 := Nat.ne_of_lt (Nat.lt_succ_of_lt (Heap.lt_size e))
    exact (sb3.2 b l1).trans ((sb2.2 b l1).trans ((sb1.2 b l2).trans (hk0 b o e)))
  have hcl3 : g3.IsCell (s.heap.objs.size + 1) (some (.ref x)) := (c1.sameBut sb2 (Ne.symm nCL)).sameBut sb3 (Ne.symm nCL)
  refine ⟨lim.keeps keep, ?_⟩
  have I : Inv (cxS P w K mg base N qual scope f cda cc A outer s H) [] (L2.start N [.ref x, v1, v2]) H { s with heap := g3, toks := s.toks + 1 + 1 } := inv_super S hr.hd e0 rfl r1 r2 ⟨_, _, e0.mod.kin _ _ hcell, rfl⟩ keep n3 hcl3
  subst hbd
  obtain ⟨ar, har, harg⟩ := T.first
  obtain ⟨cdC, hcdC⟩ := T.cls
  have hXin := I.kIn
  obtain ⟨oC, hC1, hC2⟩ : ∃ oC, g3.get? C = some oC ∧ oC.data = .cls cdC := by
    have hcdC' := hcdC
    unfold PySem.W.clsIn at hcdC'
    split at hcdC'
    · rename_i c d cd' sl ho
      cases hcdC'
      exact ⟨_, hXin _ _ ho, rfl⟩
    · cases hcdC'
  obtain ⟨of2, hof2, hofc⟩ : ∃ o, K.lookup f2 = some o ∧ o.cls = .type "function" := by
    have z : (K.lookup f2).map (·.cls) = some (.type "function") := T.ty
    cases e : K.lookup f2 with
    | none => rw [e] at z; cases z
    | some o => rw [e] at z; exact ⟨o, rfl, Option.some.inj z⟩
  obtain ⟨pl, hpl⟩ := hev (envS qual scope s.heap.objs.size f cda cc)
  refine PySem.ks_codeAny_funcAt ?_
  refine PySem.ks_wpAt_execs_cons (PySem.ks_wpAt_Expr_any (PySem.ks_wpAt_MethodCall (pl := pl) ?_ hpl) ?_ (hsw _))
  · refine PySem.ks_wpAt_super_base (ar := ar) (vs := vsc) (tf := tf) S.kS S.kC (by decide +kernel) rfl (hXin _ _ lk) rfl har rfl (hXin _ _ hco) rfl hvs hfile T.top ?_
    refine ns_ldB I S.kS hsup (by decide +kernel : bootBuiltins "super" = some (.type "super")) (by decide +kernel) ⟨rfl, ?_⟩
    refine wpAny_loadName_free (env := envS qual scope s.heap.objs.size f cda cc) S.kind S.kC lkC ⟨_, hXin _ _ hcell, rfl⟩ ?_
    rw [harg]
    refine wpAny_loadName_cell (env := envS qual scope s.heap.objs.size f cda cc) S.kind S.k0 lkS hcl3 ?_
    refine PySem.ks_wpAny_isType_cls hC1 hC2 ⟨rfl, ?_⟩
    obtain ⟨mA, O, _, _, _, _⟩ := ins_get I.hok hx
    obtain ⟨od2, J, _⟩ := O.look
    refine PySem.ks_wpAny_call_super hC1 hC2 J.at_ J.cls (fun c e => ?_) (PySem.W.looks_mroIn hXin T.sub) (fun h4 e4 k4 => ?_)
    · have := J.no
      unfold PySem.W.notCls at this
      rw [e] at this
      exact Bool.noConfusion this
    · have X4 : K.In h4 := hXin.keeps k4
      refine PySem.ks_wpAny_getMethod_super (l₀ := cdC.mro) e4 (PySem.W.looks_opaque X4 T.any) ?_ rfl X4 ?_ (X4 _ _ hof2) hofc (PySem.W.ks_ne hXin J hcdC) (by decide +kernel) ?_
      · exact fun A Q E s k q => wpAny_bind ((PySem.W.looks_clsIn X4 hcdC) A _ E s k (wpAny_pure q))
      · have z := T.at_
        unfold PySem.W.ks_superIn at z
        rw [hcdC] at z
        exact z
      · -- the bound method at q stands pinned while the arguments are read
        have I4 : Inv (cxS P w K mg base N qual scope f cda cc A outer s H) [] (L2.start N [.ref x, v1, v2]) H ⟨h4, s.gens, s.drawn, s.toks + 1 + 1, s.os⟩ := I.kept (t' := s.toks + 1 + 1) k4
        have k5 : ∀ b o, h4.get? b = some o → (h4.push { cls := .type "method", data := .fields #[.ref f2, .ref x] }).get? b = some o := fun b o e => Heap.get?_push_of_some _ e
        have q5 : (h4.push { cls := .type "method", data := .fields #[.ref f2, .ref x] }).get? h4.objs.size = some (PySem.W.methodObj (.ref f2) (.ref x)) := Heap.get?_push_size _ rfl
        have I5 : Inv (cxS P w K mg base N qual scope f cda cc A outer s H) [(h4.objs.size, PySem.W.methodObj (.ref f2) (.ref x))] (L2.start N [.ref x, v1, v2]) H ⟨h4.push { cls := .type "method", data := .fields #[.ref f2, .ref x] }, s.gens, s.drawn, s.toks + 1 + 1 + 1, s.os⟩ := by
          refine (I4.kept (t' := s.toks + 1 + 1 + 1) k5).pins_of fun p hp => ?_
          rw [List.mem_singleton.mp hp]
          exact ⟨q5, I4.hok.fresh (Nat.le_refl _), Nat.ne_of_gt I4.lt, I4.nofs (Nat.le_refl _), fun v z => by cases z⟩
        have pa : PA (cxS P w K mg base N qual scope f cda cc A outer s H) [.Name "fence" p3, .Name "size" p4] (tCons (tVar 1) (tCons (tVar 2) tNil)) := by
          obtain ⟨r, hN⟩ := S.pre
          refine pa_cons (pe_var (x := "fence") (by show N[1]? = _; rw [hN]; rfl) (.inl S.k1)) (pa_cons (pe_var (x := "size") (by show N[2]? = _; rw [hN]; rfl) (.inl S.k2)) pa_nil)
        have hσ : ∃ r : L2.St, L2.start N [.ref x, v1, v2] = some (.ref x) :: some v1 :: some v2 :: r := ⟨_, rfl⟩
        obtain ⟨r, hσ⟩ := hσ
        have hX5 : (cxS P w K mg base N qual scope f cda cc A outer s H).K.In (h4.push { cls := .type "method", data := .fields #[.ref f2, .ref x] }) := I5.kIn
        refine PySem.W.callWith_M (K := K) (h₀ := base) (L := s.heap.objs.size) (news := [(h4.objs.size, PySem.W.methodObj (.ref f2) (.ref x))]) (g := f2) (self := .ref x) e0.mod.kin (fun p hp => ?_) (List.mem_singleton.mpr rfl) T.fi ?_
        · rw [List.mem_singleton.mp hp]
          exact ⟨q5, Nat.ne_of_gt I4.lt, Heap.get?_none_of_le (Nat.le_trans e0.bsz (Nat.le_of_lt I4.lt))⟩
        · refine wpAny_mono (E := fun _ _ => False) (pa.run p5 _ _ _ _ (fun vs H1 => vs = [v1, v2] ∧ H1 = H) I5 ?_) (fun us s6 hh => ?_) fun _ _ z => z.elim
          · rw [hσ]
            exact ⟨_, rfl, _, rfl, rfl, rfl⟩
          · obtain ⟨vs, H6, I6, rv, e1, e2⟩ := hh
            subst e1 e2
            have q6 := (I6.pin (h4.objs.size, PySem.W.methodObj (.ref f2) (.ref x)) (List.mem_append_right _ (List.mem_singleton.mpr rfl))).1
            refine ⟨⟨q6, I6.kIn⟩, ?_⟩
            have r3 : Vals (V.ref x :: [v1, v2]) (Value.ref x :: us) := .cons rfl rv
            have hl : (Value.ref x :: us ++ []).length = 3 := by rw [List.append_nil]; exact r3.length.symm
            have bb := b2 s6 (Value.ref x :: us) I6.kIn hl
            rw [List.append_nil] at bb
            refine wpAny_call (codeAny_mono (PySem.ks_codeAny_call_bound (a := ⟨us, []⟩) q6 (F2.run _ _ s6 H6 ⟨Value.ref x :: us, []⟩ (Value.ref x :: us) (V.ref x :: [v1, v2]) _ E0 (hr.deeper _) I6.env0 bb r3 hq)) fun rr s7 hrr => ?_)
            cases rr with
            | error e => exact hrr.elim
            | ok fl =>
              cases fl with
              | ret u =>
                obtain ⟨v7, H7, I7, _, q7⟩ := I6.after hrr
                refine wpAt_of_wpAny (wpAny_mono (ht.run _ s7 _ H7 _ I7 q7) (fun fl s' hs => ?_) fun e s' hs => hs.elim)
                have fin : ∀ {σ' : L2.St} {H' : Hp} {v : V} {u : Value}, Inv (cxS P w K mg base N qual scope f cda cc A outer s H6) [(h4.objs.size, PySem.W.methodObj (.ref f2) (.ref x))] σ' H' s' → RelV v u → Q v H' → CE outer P w H6 s Q u s' :=
                  fun {σ' H' v u} J rv q => ⟨v, H', J.os, J.bare, J.base, J.hok, rv, q⟩
                cases fl with
                | ret u =>
                  obtain ⟨v, σ', H', J, rv, q⟩ := hs
                  exact fin J rv q
                | next =>
                  obtain ⟨σ', H', J, q⟩ := hs
                  exact fin (v := V.non) (u := Value.none) J rfl q
                | brk =>
                  obtain ⟨_, _, _, q⟩ := hs
                  exact False.elim q
                | cont =>
                  obtain ⟨_, _, _, q⟩ := hs
                  exact False.elim q
              | next => exact False.elim hrr
              | brk => exact False.elim hrr
              | cont => exact False.elim hrr
  · show (scope.kind == .module && _) = false
    rw [S.kind]
    rfl
end
end GF
set_option Elab.async false
set_option linter.all false
set_option maxRecDepth 100000
set_option maxHeartbeats 0
namespace GF
open PySem PySem.Spec PyProof.Rows L2
def d_floor_sum : He.DefD := ⟨("floor_sum", none), "floor_sum", "floor_sum", defArgs s_floor_sum, defBody s_floor_sum, defScope s_floor_sum, [], []⟩
def d_round_up : He.DefD := ⟨("round_up", none), "round_up", "round_up", defArgs s_round_up, defBody s_round_up, defScope s_round_up, [], []⟩
def d_bezout : He.DefD := ⟨("bezout", none), "bezout", "bezout", defArgs s_bezout, defBody s_bezout, defScope s_bezout, [], []⟩
def d_is_integer : He.DefD := ⟨("is_integer", none), "is_integer", "is_integer", defArgs s_is_integer, defBody s_is_integer, defScope s_is_integer, [], []⟩
def d_is_between : He.DefD := ⟨("is_between", none), "is_between", "is_between", defArgs s_is_between, defBody s_is_between, defScope s_is_between, [], []⟩
def d_are_integers : He.DefD := ⟨("are_integers", none), "are_integers", "are_integers", defArgs s_are_integers, defBody s_are_integers, defScope s_are_integers, [], []⟩
def d_common_divisor : He.DefD := ⟨("common_divisor", none), "common_divisor", "common_divisor", defArgs s_common_divisor, defBody s_common_divisor, defScope s_common_divisor, [], []⟩
def d_turn_at : He.DefD := ⟨("turn_at", none), "turn_at", "turn_at", defArgs s_turn_at, defBody s_turn_at, defScope s_turn_at, [], []⟩
def d_is_place : He.DefD := ⟨("is_place", none), "is_place", "is_place", defArgs s_is_place, defBody s_is_place, defScope s_is_place, [], []⟩
def d_are_around : He.DefD := ⟨("are_around", none), "are_around", "are_around", defArgs s_are_around, defBody s_are_around, defScope s_are_around, [], []⟩
def d_are_corners : He.DefD := ⟨("are_corners", none), "are_corners", "are_corners", defArgs s_are_corners, defBody s_are_corners, defScope s_are_corners, [], []⟩
def d_sides_of : He.DefD := ⟨("sides_of", none), "sides_of", "sides_of", defArgs s_sides_of, defBody s_sides_of, defScope s_sides_of, [], []⟩
def d_are_sides : He.DefD := ⟨("are_sides", none), "are_sides", "are_sides", defArgs s_are_sides, defBody s_are_sides, defScope s_are_sides, [], []⟩
def d_fence_fault : He.DefD := ⟨("fence_fault", none), "fence_fault", "fence_fault", defArgs s_fence_fault, defBody s_fence_fault, defScope s_fence_fault, [], []⟩
def d_require_fence : He.DefD := ⟨("require_fence", none), "require_fence", "require_fence", defArgs s_require_fence, defBody s_require_fence, defScope s_require_fence, [], []⟩
def d_require_size : He.DefD := ⟨("require_size", none), "require_size", "require_size", defArgs s_require_size, defBody s_require_size, defScope s_require_size, [], []⟩
def d_require_integer : He.DefD := ⟨("require_integer", none), "require_integer", "require_integer", defArgs s_require_integer, defBody s_require_integer, defScope s_require_integer, [], []⟩
def d_require_side : He.DefD := ⟨("require_side", none), "require_side", "require_side", defArgs s_require_side, defBody s_require_side, defScope s_require_side, [], []⟩
def d_require_point : He.DefD := ⟨("require_point", none), "require_point", "require_point", defArgs s_require_point, defBody s_require_point, defScope s_require_point, [], []⟩
def d_pairs_around : He.DefD := ⟨("pairs_around", none), "pairs_around", "pairs_around", defArgs s_pairs_around, defBody s_pairs_around, defScope s_pairs_around, [], []⟩
def d_span_of : He.DefD := ⟨("span_of", none), "span_of", "span_of", defArgs s_span_of, defBody s_span_of, defScope s_span_of, [], []⟩
def d_span_count : He.DefD := ⟨("span_count", none), "span_count", "span_count", defArgs s_span_count, defBody s_span_count, defScope s_span_count, [], []⟩
def d_low_height : He.DefD := ⟨("low_height", none), "low_height", "low_height", defArgs s_low_height, defBody s_low_height, defScope s_low_height, [], []⟩
def d_edges_of : He.DefD := ⟨("edges_of", none), "edges_of", "edges_of", defArgs s_edges_of, defBody s_edges_of, defScope s_edges_of, [], []⟩
def d_edge_sum : He.DefD := ⟨("edge_sum", none), "edge_sum", "edge_sum", defArgs s_edge_sum, defBody s_edge_sum, defScope s_edge_sum, [], []⟩
def d_Outline_init : He.DefD := ⟨("Outline", some "__init__"), "__init__", "Outline.__init__", defArgs s_Outline_init, defBody s_Outline_init, defScope s_Outline_init, [], []⟩
def d_Outline_is_corner_stake : He.DefD := ⟨("Outline", some "is_corner_stake"), "is_corner_stake", "Outline.is_corner_stake", defArgs s_Outline_is_corner_stake, defBody s_Outline_is_corner_stake, defScope s_Outline_is_corner_stake, [], []⟩
def d_Outline_side_span : He.DefD := ⟨("Outline", some "side_span"), "side_span", "Outline.side_span", defArgs s_Outline_side_span, defBody s_Outline_side_span, defScope s_Outline_side_span, [], []⟩
def d_Outline_side_stakes : He.DefD := ⟨("Outline", some "side_stakes"), "side_stakes", "Outline.side_stakes", defArgs s_Outline_side_stakes, defBody s_Outline_side_stakes, defScope s_Outline_side_stakes, [], []⟩
def d_Outline_holds : He.DefD := ⟨("Outline", some "holds"), "holds", "Outline.holds", defArgs s_Outline_holds, defBody s_Outline_holds, defScope s_Outline_holds, [], []⟩
def d_Grown_closed_below : He.DefD := ⟨("Grown", some "closed_below"), "closed_below", "Grown.closed_below", defArgs s_Grown_closed_below, defBody s_Grown_closed_below, defScope s_Grown_closed_below, [], []⟩
def d_Grown_shut_below : He.DefD := ⟨("Grown", some "shut_below"), "shut_below", "Grown.shut_below", defArgs s_Grown_shut_below, defBody s_Grown_shut_below, defScope s_Grown_shut_below, [], []⟩
def d_Grown_below : He.DefD := ⟨("Grown", some "below"), "below", "Grown.below", defArgs s_Grown_below, defBody s_Grown_below, defScope s_Grown_below, [], []⟩
def d_count_of : He.DefD := ⟨("count_of", none), "count_of", "count_of", defArgs s_count_of, defBody s_count_of, defScope s_count_of, [], []⟩
def d_stake_count : He.DefD := ⟨("stake_count", none), "stake_count", "stake_count", defArgs s_stake_count, defBody s_stake_count, defScope s_stake_count, [], []⟩
def d_side_count : He.DefD := ⟨("side_count", none), "side_count", "side_count", defArgs s_side_count, defBody s_side_count, defScope s_side_count, [], []⟩
def d_holds_stake : He.DefD := ⟨("holds_stake", none), "holds_stake", "holds_stake", defArgs s_holds_stake, defBody s_holds_stake, defScope s_holds_stake, [], []⟩
def d_below_count : He.DefD := ⟨("below_count", none), "below_count", "below_count", defArgs s_below_count, defBody s_below_count, defScope s_below_count, [], []⟩
def d_law_pool : He.DefD := ⟨("_law_pool", none), "_law_pool", "_law_pool", defArgs s_law_pool, defBody s_law_pool, defScope s_law_pool, [], []⟩
def d_law_draw : He.DefD := ⟨("_law_draw", none), "_law_draw", "_law_draw", defArgs s_law_draw, defBody s_law_draw, defScope s_law_draw, [], []⟩
def d_law_turn : He.DefD := ⟨("_law_turn", none), "_law_turn", "_law_turn", defArgs s_law_turn, defBody s_law_turn, defScope s_law_turn, [], []⟩
def d_law_corners : He.DefD := ⟨("_law_corners", none), "_law_corners", "_law_corners", defArgs s_law_corners, defBody s_law_corners, defScope s_law_corners, [], []⟩
def d_law_ten : He.DefD := ⟨("_law_ten", none), "_law_ten", "_law_ten", defArgs s_law_ten, defBody s_law_ten, defScope s_law_ten, [], []⟩
def d_law_plot : He.DefD := ⟨("_law_plot", none), "_law_plot", "_law_plot", defArgs s_law_plot, defBody s_law_plot, defScope s_law_plot, [], []⟩
def d_law_box : He.DefD := ⟨("_law_box", none), "_law_box", "_law_box", defArgs s_law_box, defBody s_law_box, defScope s_law_box, [], []⟩
def d_law_is_stake : He.DefD := ⟨("_law_is_stake", none), "_law_is_stake", "_law_is_stake", defArgs s_law_is_stake, defBody s_law_is_stake, defScope s_law_is_stake, [], []⟩
def d_law_on_open : He.DefD := ⟨("_law_on_open", none), "_law_on_open", "_law_on_open", defArgs s_law_on_open, defBody s_law_on_open, defScope s_law_on_open, [], []⟩
def d_law_one_more_right : He.DefD := ⟨("_law_one_more_right", none), "_law_one_more_right", "_law_one_more_right", defArgs s_law_one_more_right, defBody s_law_one_more_right, defScope s_law_one_more_right, [], []⟩
def d_law_spots_right : He.DefD := ⟨("_law_spots_right", none), "_law_spots_right", "_law_spots_right", defArgs s_law_spots_right, defBody s_law_spots_right, defScope s_law_spots_right, [], []⟩
def d_law_right : He.DefD := ⟨("_law_right", none), "_law_right", "_law_right", defArgs s_law_right, defBody s_law_right, defScope s_law_right, [], []⟩
def d_law : He.DefD := ⟨("law", none), "law", "law", defArgs s_law, defBody s_law, defScope s_law, [], []⟩
def d_G_stake : He.DefD := ⟨("Grown", some "is_corner_stake"), "is_corner_stake", "Outline.is_corner_stake", defArgs s_Outline_is_corner_stake, defBody s_Outline_is_corner_stake, defScope s_Outline_is_corner_stake, [], []⟩
def d_G_span : He.DefD := ⟨("Grown", some "side_span"), "side_span", "Outline.side_span", defArgs s_Outline_side_span, defBody s_Outline_side_span, defScope s_Outline_side_span, [], []⟩
def fn : List He.DefD := [d_G_stake, d_G_span, d_floor_sum, d_round_up, d_bezout, d_is_integer, d_is_between, d_are_integers, d_common_divisor, d_turn_at, d_is_place, d_are_around, d_are_corners, d_sides_of, d_are_sides, d_fence_fault, d_require_fence, d_require_size, d_require_integer, d_require_side, d_require_point, d_pairs_around, d_span_of, d_span_count, d_low_height, d_edges_of, d_edge_sum, d_Outline_init, d_Outline_is_corner_stake, d_Outline_side_span, d_Outline_side_stakes, d_Outline_holds, d_Grown_closed_below, d_Grown_shut_below, d_Grown_below, d_count_of, d_stake_count, d_side_count, d_holds_stake, d_below_count, d_law_pool, d_law_draw, d_law_turn, d_law_corners, d_law_ten, d_law_plot, d_law_box, d_law_is_stake, d_law_on_open, d_law_one_more_right, d_law_spots_right, d_law_right, d_law]
def fa0 : List He.Fa := [.glo "floor_sum", .glo "round_up", .glo "bezout", .glo "is_integer", .glo "is_between", .glo "are_integers", .glo "common_divisor", .glo "turn_at", .glo "is_place", .glo "are_around", .glo "are_corners", .glo "sides_of", .glo "are_sides", .glo "fence_fault", .glo "require_fence", .glo "require_size", .glo "require_integer", .glo "require_side", .glo "require_point", .glo "pairs_around", .glo "span_of", .glo "span_count", .glo "low_height", .glo "edges_of", .glo "edge_sum", .glo "count_of", .glo "stake_count", .glo "side_count", .glo "holds_stake", .glo "below_count"]
def fa1 : List He.Fa := [.glo "_law_pool", .glo "_law_draw", .glo "_law_turn", .glo "_law_corners", .glo "_law_ten", .glo "_law_plot", .glo "_law_box", .glo "_law_is_stake", .glo "_law_on_open", .glo "_law_one_more_right", .glo "_law_spots_right", .glo "_law_right", .glo "law", .free "len", .free "abs", .free "isinstance", .free "int", .free "bool", .free "tuple", .free "list", .free "all", .free "zip", .free "min", .free "max", .free "sum", .free "sorted", .free "set", .free "range", .free "divmod", .free "super"]
def fa2 : List He.Fa := [.int "MOST_PARTS" 30, .int "MOST_AROUND" 10, .int "MOST_PLACE" (10 ^ 30), .int "MOST_SIZE" (10 ^ 30), .glo "Outline", .cls "Outline", .noat "Outline" "bottom", .noat "Outline" "corners", .noat "Outline" "shut", .noat "Outline" "pairs", .meth "Outline" "side_stakes", .meth "Outline" "holds", .meth "Outline" "is_corner_stake", .meth "Outline" "side_span", .mkr "Outline", .glo "Grown", .cls "Grown", .noat "Grown" "bottom", .noat "Grown" "corners", .noat "Grown" "shut", .noat "Grown" "pairs", .noat "Grown" "lowest", .noat "Grown" "highest", .noat "Grown" "rights", .noat "Grown" "lefts", .noat "Grown" "whole", .noat "Grown" "spans", .meth "Grown" "below", .meth "Grown" "closed_below", .meth "Grown" "shut_below"]
def fa3 : List He.Fa := [.meth "Grown" "is_corner_stake", .meth "Grown" "side_span", .mkr "Grown"]
def fa : List He.Fa := fa0 ++ fa1 ++ fa2 ++ fa3
def nm0 : List PySem.Str := ["_wall", "__name__", "floor_sum", "round_up", "bezout", "FenceError", "InvalidSize", "InvalidNumber", "InvalidSide", "InvalidPoint", "InvalidFence", "MOST_PARTS", "MOST_AROUND", "MOST_PLACE", "MOST_SIZE", "is_integer", "is_between", "are_integers", "common_divisor", "turn_at", "is_place", "are_around", "are_corners", "sides_of", "are_sides", "fence_fault", "require_fence", "require_size", "require_integer", "require_side"]
def nm1 : List PySem.Str := ["require_point", "pairs_around", "span_of", "span_count", "low_height", "edges_of", "edge_sum", "Outline", "Grown", "count_of", "stake_count", "side_count", "holds_stake", "below_count", "_law_pool", "_law_draw", "_law_turn", "_law_corners", "_law_ten", "_law_plot", "_law_box", "_law_is_stake", "_law_on_open", "_law_one_more_right", "_law_spots_right", "_law_right"]
def nm : List PySem.Str := nm0 ++ nm1
/-! ### Grown.__init__ : a def with a closure -/
abbrev SupV : Type := Option (Str × Str × Arguments × FuncBody × Scope × Addr × Addr)
def gI : Str × Option Str := ("Grown", some "__init__")
def oI : Str × Option Str := ("Outline", some "__init__")
def supW (K : PySem.W.Frag) : SupV := match K.lookup (He.fAd K gI) with
  | some ⟨_, _, .func fd, _⟩ => some (fd.name, fd.qualname, fd.params, fd.body, fd.scope, fd.globals, fd.builtins)
  | _ => none
def supV : SupV := some ("__init__", "Grown.__init__", defArgs s_Grown_init, .stmts (defBody s_Grown_init), defScope s_Grown_init, mainGlobals, builtinsNs)
def cellB (K : PySem.W.Frag) (cc C : Addr) : Bool := match K.lookup cc with
  | some ⟨_, _, .cell (some (.ref c)), _⟩ => decide (c = C)
  | _ => false
def codeB (fl : Str) (K : PySem.W.Frag) (cda : Addr) : Bool := match K.lookup cda with
  | some ⟨_, _, .fields vs, _⟩ => (match (vs[2]? : Option Value) with
    | some (.str file _) => fl == file
    | _ => false)
  | _ => false
def closB (fl : Str) (K : PySem.W.Frag) (C : Addr) (cl : List (Str × Addr)) (cd dV : Value) : Bool := match cl, cd, dV with
  | [(c, cc)], .ref cda, .none => decide (c = "__class__") && (PySem.W.codeIn K (.ref cda) "Grown.__init__" && (cellB K cc C && codeB fl K cda))
  | _, _, _ => false
def supB (fl : Str) (K : PySem.W.Frag) : Bool := (match K.lookup (He.fAd K gI) with
  | some ⟨_, _, .func fd, _⟩ => closB fl K (He.ga K "Grown") fd.closure fd.code fd.defaults
  | _ => false) && ((PySem.W.clsIn K (He.ga K "Grown")).isSome && (decide (PySem.W.mroIn K (He.ga K "Grown") (.ref (He.ga K "Grown")) = some true) && (decide (PySem.W.nsIn K cStatics "thirdparty.any" = some none) &&
  (He.eqO (PySem.W.ks_superIn K (He.ga K "Grown") (He.ga K "Grown") "__init__") (some (some (.ref (He.fAd K oI)))) && (decide (PySem.W.typeIn K (.ref (He.fAd K oI)) = some (.type "function")) && PySem.W.fnIn K (He.fAd K oI))))))
theorem closB_ok {fl : Str} {K : PySem.W.Frag} {C : Addr} {cl : List (Str × Addr)} {cd dV : Value} (h : closB fl K C cl cd dV = true) : ∃ (cc cda : Addr), cl = [(("__class__" : Str), cc)] ∧ cd = .ref cda ∧ dV = .none ∧ PySem.W.codeIn K (.ref cda) "Grown.__init__" = true ∧ (∃ c1 c2 c3, K.lookup cc = some ⟨c1, c2, .cell (some (.ref C)), c3⟩) ∧ ∃ ccl cdd vs ccs file tf, K.lookup cda = some ⟨ccl, cdd, .fields vs, ccs⟩ ∧ vs[2]? = some (.str file tf) ∧ (fl == file) = true := by
  unfold closB at h
  split at h
  · rename_i c cc cda
    obtain ⟨h1, h⟩ := He.ba h
    obtain ⟨h2, h⟩ := He.ba h
    obtain ⟨h3, h4⟩ := He.ba h
    refine ⟨cc, cda, by rw [of_decide_eq_true h1], rfl, rfl, h2, ?_, ?_⟩
    · unfold cellB at h3
      split at h3
      · rename_i c1 c2 c c3 q
        have e := of_decide_eq_true h3
        subst e
        exact ⟨c1, c2, c3, q⟩
      · cases h3
    · unfold codeB at h4
      split at h4
      · rename_i ccl cdd vs ccs q
        split at h4
        · rename_i file tf q2
          exact ⟨ccl, cdd, vs, ccs, file, tf, q, q2, h4⟩
        · cases h4
      · cases h4
  · cases h
theorem sup_ok {P : Program} {K : PySem.W.Frag} (htop : (P.main.scope.names.lookup ("super" : Str)).isSome = false) (e : supW K = supV) (c : supB P.main.file K = true) : ∃ fd, SupTxt P K (He.ga K "Grown") (He.fAd K gI) (He.fAd K oI) "__init__" "Grown.__init__" (defArgs s_Grown_init) (defBody s_Grown_init) (defScope s_Grown_init) fd ∧ Binds K fd ["self", "fence", "size"] [] := by
  obtain ⟨c1, c⟩ := He.ba c
  obtain ⟨c2, c⟩ := He.ba c
  obtain ⟨c3, c⟩ := He.ba c
  obtain ⟨c4, c⟩ := He.ba c
  obtain ⟨c5, c⟩ := He.ba c
  obtain ⟨c6, c7⟩ := He.ba c
  unfold supW supV at e
  cases q : K.lookup (He.fAd K gI) with
  | none =>
    rw [q] at e
    cases e
  | some o =>
    obtain ⟨oc, od, dt, osl⟩ := o
    rw [q] at e c1
    cases dt with
    | func fd =>
      obtain ⟨n1, n2, n3, n4, n5, n6, n7, n8, n9, n10, n11, n12, n13, n14, n15⟩ := fd
      have e2 : (some (n1, n2, n3, n4, n5, n6, n15) : SupV) = some (("__init__" : Str), ("Grown.__init__" : Str), defArgs s_Grown_init, FuncBody.stmts (defBody s_Grown_init), defScope s_Grown_init, mainGlobals, builtinsNs) := e
      simp only [Option.some.injEq, Prod.mk.injEq] at e2
      obtain ⟨h1, h2, h3, h4, h5, h6, h7⟩ := e2
      have c1 : closB P.main.file K (He.ga K "Grown") n7 n13 n8 = true := c1
      obtain ⟨cc, cda, rfl, rfl, rfl, k1, k2, k3⟩ := closB_ok c1
      subst h1 h2 h3 h4 h5 h6 h7
      refine ⟨_, ⟨⟨oc, od, .none, n9, n10, n11, n12, cda, cc, n14, osl, rfl, q, k1, k2, k3⟩, ⟨_, rfl, rfl⟩, Option.isSome_iff_exists.mp c2, of_decide_eq_true c3, of_decide_eq_true c4, He.eqO_ok c5, of_decide_eq_true c6, c7, htop⟩, ?_⟩
      exact .all fun us hl => match us, hl with | [_, _, _], _ => rfl
    | _ => cases e
abbrev R : PySem.W.OpenRow := PySem.W.OpenLaw.row PySem.Challenge.rw_growfences_k73_whole_open_and_closed_sid
def flN : Str := PySem.Challenge.pw_growfences_k73_whole_open_and_closed_sid.main.file
abbrev AlS : Type := (Bool × SupV) × He.AlD
def obsS (K : PySem.W.Frag) : AlS := ((supB flN K, supW K), He.obsD fa fn K)
def valS : AlS := ((true, supV), He.valD fn)
def obsSG (g : Addr → Option Obj) : AlS := obsS (He.frG g (cStatics :: He.asD g 6))
def hk : PySem.W.Hook where
  α := AlS
  obs := fun s => obsSG s.heap.get?
  val := fun _ => valS
  says := fun _ h => ∃ K : PySem.W.Frag, K.In h ∧ obsS K = valS
  of := fun _ _ e => ⟨_, He.frG_in, e⟩
  keeps := fun _ _ _ ⟨K, hK, c⟩ k => ⟨K, PySem.W.Frag.In.keeps hK k, c⟩
def ob (s : PySem.W.SharedT) : AlS := obsSG (HandSHeadRun.getT s)
theorem ob_eq (s : PySem.W.SharedT) : ob s = hk.obs s.abs := by
  have e : HandSHeadRun.getT s = s.abs.heap.get? := funext (HandSHeadRun.getT_eq s)
  show obsSG (HandSHeadRun.getT s) = obsSG s.abs.heap.get?
  rw [e]
theorem run (w : World) : HandSHeadRun.RunEq R (PySem.W.view R.prog [61]) hk ob 4000 nm w := by
  intro os
  kernel_rfl
end GF
set_option Elab.async false
set_option linter.all false
set_option maxRecDepth 100000
set_option maxHeartbeats 4000000
/-! Names, uses of a def by another. -/
namespace GF
open PySem PySem.Spec PyProof.Rows L2
/-- the module's names that are not the program's own, and its four numbers -/
structure Nm (mg : Str → Option Value) : Prop where
  len : mg "len" = none
  abs : mg "abs" = none
  isinstance : mg "isinstance" = none
  int : mg "int" = none
  bool : mg "bool" = none
  tuple : mg "tuple" = none
  list : mg "list" = none
  all : mg "all" = none
  zip : mg "zip" = none
  min : mg "min" = none
  max : mg "max" = none
  sum : mg "sum" = none
  sorted : mg "sorted" = none
  set : mg "set" = none
  range : mg "range" = none
  divmod : mg "divmod" = none
  super : mg "super" = none
  MOST_PARTS : ∃ t, mg "MOST_PARTS" = some (.int 30 t)
  MOST_AROUND : ∃ t, mg "MOST_AROUND" = some (.int 10 t)
  MOST_PLACE : ∃ t, mg "MOST_PLACE" = some (.int (10 ^ 30) t)
  MOST_SIZE : ∃ t, mg "MOST_SIZE" = some (.int (10 ^ 30) t)
theorem pe_num {X : Cx} {x : Str} {i : Int} {pos : Pos} (hg : Gl X x) (hm : ∃ t, X.mg x = some (.int i t)) (hd : (x == ("__debug__" : Str)) = false := by decide) : PE X (.Name x pos) (tC (.int i)) := by
  obtain ⟨t, h⟩ := hm
  exact pe_glob hg h ⟨t, rfl⟩ hd
abbrev FnP (K : PySem.W.Frag) (x : Str) (st : Stmt) (f : Addr) (fd : FuncData) : Prop := FunD K x x (defArgs st) (defBody st) (defScope st) [] [] f fd
abbrev FnM (K : PySem.W.Frag) (x q : Str) (st : Stmt) (f : Addr) (fd : FuncData) : Prop := FunD K x q (defArgs st) (defBody st) (defScope st) [] [] f fd
/-- a def of the module, as another calls it -/
structure Use (P : Program) (w : World) (K : PySem.W.Frag) (mg : Str → Option Value) (base : Heap) (x : Str) (k : Nat) (ps : List Str) (sp : Sp) (f : Addr) (fd : FuncData) : Prop where
  ok : FnOk P w K mg base CX0 k f fd ps sp
  g : mg x = some (.ref f)
  kp : PySem.W.keepIn K (.ref f) = true
  b : Binds K fd ps []
/-- a method of the class C, as another calls it -/
structure UseM (P : Program) (w : World) (K : PySem.W.Frag) (mg : Str → Option Value) (base : Heap) (C : Addr) (x : Str) (k : Nat) (ps : List Str) (sp : Sp) (f : Addr) (fd : FuncData) : Prop where
  ok : FnOk P w K mg base CX0 k f fd ps sp
  m : Meth K C x f
  b : Binds K fd ps []
theorem room2 {k : Nat} {A : Around} (r : Room (k + 2) A) : Room k A.in1.in1 := (Room.in1 (k := k + 1) r).in1
theorem units65 {k : Nat} {A : Around} (r : Room k A) : A.units + 65 < cLine := by have := r.un; omega
section
variable {X : Cx} {K : PySem.W.Frag}
theorem ix_seqK (hK : X.K = K) : IxR X (rIx K) := by
  subst hK
  exact ix_seq
theorem op_inK (hK : X.K = K) : OpR X (compareOp .In) (rIn K false) := by
  subst hK
  exact op_in_seq
theorem op_niK (hK : X.K = K) : OpR X (compareOp .NotIn) (rIn K true) := by
  subst hK
  exact op_notIn_seq
theorem call_lenK (hK : X.K = K) : CallR X (.builtin "len") (Evl.rLenS K) := by
  subst hK
  exact call_len_seq
theorem pe_fldK {e : Expr} {ta : TE} {f : Str} {pos : Pos} (hK : X.K = K) (he : PE X e ta) (hb : attributeBase e f X.env (eval e X.env) = eval e X.env) : PE X (.Attribute e f pos) (tFld K ta f) := by
  subst hK
  exact pe_fld he hb
theorem pg_tupK {es : List Expr} {k : Nat} {t : TGs} {n : Nat} {pos : Pos} (hK : X.K = K) (hc : X.calm = true) (h : PGs X es t)
    (hn : (assignEach es X.env).length = n := by rfl) (hst : (assignEach es X.env).findIdx? (·.1) = none := by rfl) : PG X (.Tuple es k pos) (gTup K n t) := by
  subst hK
  exact pg_tup hc h hn hst
end
end GF
set_option Elab.async false
set_option linter.all false
set_option maxRecDepth 100000
set_option maxHeartbeats 4000000
/-! What stands at a value (tuples of numbers, lists of them), and a calculus of readings over it. -/
namespace GF
open PySem PySem.Spec PyProof.Rows L2 Evl
abbrev Pt := Int × Int
/-! ### what stands at a value -/
def Mo (R : Hp → V → Prop) : Prop := ∀ H H' v, Ex H H' → R H v → R H' v
def Mo2 {α : Type} (S : Hp → V → α → Prop) : Prop := ∀ H H' v x, Ex H H' → S H v x → S H' v x
theorem Mo2.at {α : Type} {S : Hp → V → α → Prop} (h : Mo2 S) (x : α) : Mo fun H v => S H v x := fun H H' v e => h H H' v x e
def Is (w : V) (_ : Hp) (v : V) : Prop := v = w
theorem mo_is {w : V} : Mo (Is w) := fun _ _ _ _ h => h
def IsI (_ : Hp) (v : V) (i : Int) : Prop := v = .int i
theorem mo_int : Mo2 IsI := fun _ _ _ _ _ h => h
def IsB (_ : Hp) (v : V) (i : Bool) : Prop := v = .bl i
theorem mo_bl : Mo2 IsB := fun _ _ _ _ _ h => h
/-- a tuple of these values -/
def TN (H : Hp) (v : V) (xs : List V) : Prop := ∃ a, v = .ref a ∧ H a = some (.tup xs)
theorem mo_tn : Mo2 TN := fun _ _ _ _ e ⟨a, h1, h2⟩ => ⟨a, h1, e a _ h2⟩
def T2 (H : Hp) (v : V) (p : Pt) : Prop := TN H v [.int p.1, .int p.2]
theorem mo_t2 : Mo2 T2 := fun _ _ _ _ e h => mo_tn _ _ _ _ e h
/-- a tuple of two points -/
def TPP (H : Hp) (v : V) (q : Pt × Pt) : Prop := ∃ a x y, v = .ref a ∧ H a = some (.tup [x, y]) ∧ T2 H x q.1 ∧ T2 H y q.2
theorem mo_tpp : Mo2 TPP := fun _ _ _ _ e ⟨a, x, y, h1, h2, h3, h4⟩ => ⟨a, x, y, h1, e a _ h2, mo_t2 _ _ _ _ e h3, mo_t2 _ _ _ _ e h4⟩
/-- values and what stands at them, place by place -/
def All2 {α : Type} (S : V → α → Prop) (vs : List V) (xs : List α) : Prop := vs.length = xs.length ∧ ∀ (i : Nat) (v : V) (x : α), vs[i]? = some v → xs[i]? = some x → S v x
theorem All2.nil {α : Type} {S : V → α → Prop} : All2 S [] [] := ⟨rfl, fun i v x h => by simp at h⟩
theorem All2.mono {α : Type} {S S' : V → α → Prop} {vs : List V} {xs : List α} (h : All2 S vs xs) (m : ∀ v x, S v x → S' v x) : All2 S' vs xs := ⟨h.1, fun i v x e1 e2 => m v x (h.2 i v x e1 e2)⟩
theorem All2.at {α : Type} {S : V → α → Prop} {vs : List V} {xs : List α} (h : All2 S vs xs) {i : Nat} {x : α} (hx : xs[i]? = some x) : ∃ v, vs[i]? = some v ∧ S v x := by
  have hi : i < vs.length := by rw [h.1]; exact (List.getElem?_eq_some_iff.mp hx).1
  exact ⟨vs[i], List.getElem?_eq_getElem hi, h.2 i _ x (List.getElem?_eq_getElem hi) hx⟩
theorem All2.atV {α : Type} {S : V → α → Prop} {vs : List V} {xs : List α} (h : All2 S vs xs) {i : Nat} {v : V} (hx : vs[i]? = some v) : ∃ x, xs[i]? = some x ∧ S v x := by
  have hi : i < xs.length := by rw [← h.1]; exact (List.getElem?_eq_some_iff.mp hx).1
  exact ⟨xs[i], List.getElem?_eq_getElem hi, h.2 i v _ hx (List.getElem?_eq_getElem hi)⟩
theorem All2.cons {α : Type} {S : V → α → Prop} {v : V} {x : α} {vs : List V} {xs : List α} (h : S v x) (r : All2 S vs xs) : All2 S (v :: vs) (x :: xs) := ⟨by rw [List.length_cons, List.length_cons, r.1], fun i w y e1 e2 => by
  cases i with
  | zero =>
    cases e1
    cases e2
    exact h
  | succ n => exact r.2 n w y (by simpa using e1) (by simpa using e2)⟩
theorem All2.uncons {α : Type} {S : V → α → Prop} {x : α} {vs : List V} {xs : List α} (h : All2 S vs (x :: xs)) : ∃ v ws, vs = v :: ws ∧ S v x ∧ All2 S ws xs := by
  cases vs with
  | nil => exact absurd h.1 (by simp)
  | cons v ws => exact ⟨v, ws, rfl, h.2 0 v x rfl rfl, by simpa using h.1, fun i w y e1 e2 => h.2 (i + 1) w y (by simpa using e1) (by simpa using e2)⟩
theorem All2.nil_inv {α : Type} {S : V → α → Prop} {vs : List V} (h : All2 S vs []) : vs = [] := List.length_eq_zero_iff.mp h.1
theorem All2.app {α : Type} {S : V → α → Prop} {vs ws : List V} {xs ys : List α} (h : All2 S vs xs) (r : All2 S ws ys) : All2 S (vs ++ ws) (xs ++ ys) := ⟨by rw [List.length_append, List.length_append, h.1, r.1], fun i v x e1 e2 => by
  by_cases hi : i < vs.length
  · rw [List.getElem?_append_left hi] at e1
    rw [List.getElem?_append_left (by rw [← h.1]; exact hi)] at e2
    exact h.2 i v x e1 e2
  · rw [List.getElem?_append_right (by omega)] at e1
    rw [List.getElem?_append_right (by rw [← h.1]; omega), ← h.1] at e2
    exact r.2 _ v x e1 e2⟩
theorem All2.one {α : Type} {S : V → α → Prop} {v : V} {x : α} (h : S v x) : All2 S [v] [x] := All2.cons h All2.nil
theorem All2.ints {vs : List V} {ns : List Int} (h : All2 (fun v i => v = .int i) vs ns) : vs = ns.map V.int := by
  refine List.ext_getElem? fun i => ?_
  rw [List.getElem?_map]
  cases e : ns[i]? with
  | none =>
    have : ns.length ≤ i := by simpa using e
    have h2 : vs.length ≤ i := by have := h.1; omega
    rw [List.getElem?_eq_none h2]
    rfl
  | some n =>
    obtain ⟨v, e2, e3⟩ := h.at e
    rw [e2, e3]
    rfl
theorem All2.of_ints (ns : List Int) : All2 (fun v i => v = .int i) (ns.map V.int) ns := ⟨by simp, fun i v x e1 e2 => by
  rw [List.getElem?_map, e2] at e1
  cases e1
  rfl⟩
theorem All2.bls {vs : List V} {ns : List Bool} (h : All2 (fun v i => v = .bl i) vs ns) : vs = ns.map V.bl := by
  refine List.ext_getElem? fun i => ?_
  rw [List.getElem?_map]
  cases e : ns[i]? with
  | none =>
    have : ns.length ≤ i := by simpa using e
    have h2 : vs.length ≤ i := by have := h.1; omega
    rw [List.getElem?_eq_none h2]
    rfl
  | some n =>
    obtain ⟨v, e2, e3⟩ := h.at e
    rw [e2, e3]
    rfl
/-- a list whose items stand so -/
def LR {α : Type} (S : Hp → V → α → Prop) (H : Hp) (v : V) (xs : List α) : Prop := ∃ a vs, v = .ref a ∧ H a = some (.lst vs) ∧ All2 (S H) vs xs
theorem mo_lr {α : Type} {S : Hp → V → α → Prop} (m : Mo2 S) : Mo2 (LR S) := fun _ _ _ _ e ⟨a, vs, h1, h2, h3⟩ => ⟨a, vs, h1, e a _ h2, h3.mono fun v x => m _ _ v x e⟩
theorem LR.ints {H : Hp} {v : V} {ns : List Int} (h : LR IsI H v ns) : ∃ a, v = .ref a ∧ H a = some (.lst (ns.map V.int)) := by
  obtain ⟨a, vs, e1, e2, e3⟩ := h
  rw [All2.ints e3] at e2
  exact ⟨a, e1, e2⟩
theorem LR.bls {H : Hp} {v : V} {ns : List Bool} (h : LR IsB H v ns) : ∃ a, v = .ref a ∧ H a = some (.lst (ns.map V.bl)) := by
  obtain ⟨a, vs, e1, e2, e3⟩ := h
  rw [All2.bls e3] at e2
  exact ⟨a, e1, e2⟩
theorem LR.of_ints {H : Hp} {a : Addr} {ns : List Int} (h : H a = some (.lst (ns.map V.int))) : LR IsI H (.ref a) ns := ⟨a, _, rfl, h, All2.of_ints ns⟩
/-! ### readings -/
def ER (te : TE) (σ : L2.St) (H : Hp) (R : Hp → V → Prop) : Prop := ∀ H1, Ex H H1 → ∀ Q : VK, (∀ v H2, Ex H1 H2 → R H2 v → Q v H2) → te σ H1 Q
def AR (ta : TA) (σ : L2.St) (H : Hp) (P : Hp → List V → Prop) : Prop := ∀ H1, Ex H H1 → ∀ Q : List V → Hp → Prop, (∀ vs H2, Ex H1 H2 → P H2 vs → Q vs H2) → ta σ H1 Q
def MoA (P : Hp → List V → Prop) : Prop := ∀ H H' vs, Ex H H' → P H vs → P H' vs
section
variable {K : PySem.W.Frag} {σ : L2.St} {H H' : Hp} {ta tb te tx tl : TE} {t u : TT} {x y z v : V} {r : R2} {R R' Ra Rb : Hp → V → Prop} {P : Hp → List V → Prop}
theorem ER.mono (e : Ex H H') (h : ER te σ H R) : ER te σ H' R := fun H1 a Q q => h H1 (e.trans a) Q q
theorem ER.imp (h : ER te σ H R) (m : ∀ H1 v, Ex H H1 → R H1 v → R' H1 v) : ER te σ H R' := fun H1 a Q q => h H1 a Q fun v H2 e r => q v H2 e (m H2 v (a.trans e) r)
theorem er_ev (h : Ev te σ H v) (r : ∀ H1, Ex H H1 → R H1 v) : ER te σ H R := fun H1 e Q q => h H1 e Q fun H2 e2 => q v H2 e2 (r H2 (e.trans e2))
theorem er_is (h : Ev te σ H v) : ER te σ H (Is v) := er_ev h fun _ _ => rfl
theorem ev_er (h : ER te σ H (Is v)) : Ev te σ H v := fun H1 e Q q => h H1 e Q fun w H2 e2 r => by
  cases r
  exact q H2 e2
theorem er_var {i : Nat} (h : σ[i]? = some (some v)) (m : Mo R) (r : R H v) : ER (tVar i) σ H R := er_ev (ev_var h) fun H1 e => m _ _ _ e r
theorem er_if {b : Bool} (h : EvT t σ H b) (h1 : b = true → ER ta σ H R) (h2 : b = false → ER tb σ H R) : ER (tIf t ta tb) σ H R := fun H1 e Q q => h H1 e _ fun H2 e2 => by
  cases b with
  | true =>
    show ta σ H2 Q
    exact h1 rfl H2 (e.trans e2) Q fun v H3 e3 => q v H3 (e2.trans e3)
  | false =>
    show tb σ H2 Q
    exact h2 rfl H2 (e.trans e2) Q fun v H3 e3 => q v H3 (e2.trans e3)
theorem ar_nil : AR tNil σ H (fun _ vs => vs = []) := fun H1 _ Q q => q [] H1 (Ex.refl H1) rfl
theorem ar_cons {tr : TA} (h : ER te σ H R) (m : Mo R) (hr : AR tr σ H P) : AR (tCons te tr) σ H (fun H' vs => ∃ v ws, vs = v :: ws ∧ R H' v ∧ P H' ws) := fun H1 e Q q =>
  h H1 e _ fun v H2 e2 r => hr H2 (e.trans e2) _ fun ws H3 e3 p => q (v :: ws) H3 (e2.trans e3) ⟨v, ws, rfl, m _ _ _ e3 r, p⟩
theorem AR.imp {ta : TA} {P' : Hp → List V → Prop} (h : AR ta σ H P) (m : ∀ H1 vs, Ex H H1 → P H1 vs → P' H1 vs) : AR ta σ H P' := fun H1 a Q q => h H1 a Q fun v H2 e r => q v H2 e (m H2 v (a.trans e) r)
theorem mo_nilA : MoA (fun _ vs => vs = []) := fun _ _ _ _ h => h
theorem mo_consA (m : Mo R) (m2 : MoA P) : MoA (fun H' vs => ∃ v ws, vs = v :: ws ∧ R H' v ∧ P H' ws) := fun _ _ _ e ⟨v, ws, h1, h2, h3⟩ => ⟨v, ws, h1, m _ _ _ e h2, m2 _ _ _ e h3⟩
theorem er_tup {ta : TA} (h : AR ta σ H P) (m : MoA P) (hl : ∀ H1 vs, P H1 vs → vs.length ≤ 100000) : ER (tTup ta) σ H (fun H' v => ∃ a vs, v = .ref a ∧ H' a = some (.tup vs) ∧ P H' vs) := fun H1 e Q q =>
  h H1 e _ fun vs H2 e2 p => ⟨sz_of (hl _ _ p), fun a ha => q _ _ (e2.trans (Ex.new ha)) ⟨a, vs, rfl, upd_same, m _ _ _ (Ex.new ha) p⟩⟩
theorem er_lst {ta : TA} (h : AR ta σ H P) (m : MoA P) (hl : ∀ H1 vs, P H1 vs → vs.length ≤ 100000) : ER (tLst ta) σ H (fun H' v => ∃ a vs, v = .ref a ∧ H' a = some (.lst vs) ∧ P H' vs) := fun H1 e Q q =>
  h H1 e _ fun vs H2 e2 p => ⟨sz_of (hl _ _ p), fun a ha => q _ _ (e2.trans (Ex.new ha)) ⟨a, vs, rfl, upd_same, m _ _ _ (Ex.new ha) p⟩⟩
theorem er_l2 {α : Type} {S : Hp → V → α → Prop} {ta : TA} {xs : List α} (h : AR ta σ H (fun H' vs => All2 (S H') vs xs)) (m : Mo2 S) (hl : xs.length ≤ 100000) : ER (tLst ta) σ H (fun H' v => LR S H' v xs) :=
  (er_lst h (fun _ _ _ e p => p.mono fun v x => m _ _ v x e) (fun _ _ p => Nat.le_trans (Nat.le_of_eq p.1) hl)).imp fun _ _ _ ⟨a, vs, h1, h2, h3⟩ => ⟨a, vs, h1, h2, h3⟩
theorem ar_nil2 {α : Type} {S : Hp → V → α → Prop} : AR tNil σ H (fun H' vs => All2 (S H') vs []) := fun H1 _ Q q => q [] H1 (Ex.refl H1) All2.nil
theorem ar_cons2 {α : Type} {S : Hp → V → α → Prop} {tr : TA} {x : α} {xs : List α} (h : ER te σ H (fun H' v => S H' v x)) (m : Mo2 S) (hr : AR tr σ H (fun H' vs => All2 (S H') vs xs)) : AR (tCons te tr) σ H (fun H' vs => All2 (S H') vs (x :: xs)) :=
  (ar_cons h (m.at x) hr).imp fun _ _ _ ⟨v, ws, h1, h2, h3⟩ => by subst h1; exact All2.cons h2 h3
/-- operators, built-in calls -/
theorem er_op (ha : ER ta σ H Ra) (ma : Mo Ra) (hb : ER tb σ H Rb) (hr : ∀ H1 x y, Ex H H1 → Ra H1 x → Rb H1 y → ∀ Q : VK, (∀ v H2, Ex H1 H2 → R H2 v → Q v H2) → r x y H1 Q) : ER (tOp r ta tb) σ H R := fun H1 e Q q =>
  ha H1 e _ fun x H2 e2 rx => hb H2 (e.trans e2) _ fun y H3 e3 ry => hr H3 x y ((e.trans e2).trans e3) (ma _ _ _ e3 rx) ry Q fun v H4 e4 => q v H4 ((e2.trans e3).trans e4)
theorem er_cb {r : List V → Hp → VK → Prop} {ta : TA} (h : AR ta σ H P) (hr : ∀ H1 vs, Ex H H1 → P H1 vs → ∀ Q : VK, (∀ v H2, Ex H1 H2 → R H2 v → Q v H2) → r vs H1 Q) : ER (tCB r ta) σ H R := fun H1 e Q q =>
  h H1 e _ fun vs H2 e2 p => hr H2 vs (e.trans e2) p Q fun v H3 e3 => q v H3 (e2.trans e3)
/-- a promise: Pre of what is given, R of the answer -/
def mkSp {α : Type} (Pre : α → Hp → List V → Prop) (R : α → Hp → V → Prop) : Sp := fun vs H Q _ => ∃ a, Pre a H vs ∧ ∀ v H', Ex H H' → R a H' v → Q v H'
theorem er_call {α : Type} {Pre : α → Hp → List V → Prop} {Rr : α → Hp → V → Prop} {E : XK} {ta : TA} (a : α) (h : AR ta σ H P) (hp : ∀ H1 vs, Ex H H1 → P H1 vs → Pre a H1 vs) : ER (tCall (mkSp Pre Rr) [] E ta) σ H (Rr a) := fun H1 e Q q =>
  h H1 e _ fun vs H2 e2 p => ⟨a, by rw [List.append_nil]; exact hp H2 vs (e.trans e2) p, fun v H3 e3 hr => q v H3 (e2.trans e3) hr⟩
/-- the same, its arguments values that are known -/
theorem er_use {α : Type} {Pre : α → Hp → List V → Prop} {Rr : α → Hp → V → Prop} {E : XK} {ta : TA} {vs : List V} (a : α) (h : EvA ta σ H vs) (hp : ∀ H1, Ex H H1 → Pre a H1 vs) : ER (tCall (mkSp Pre Rr) [] E ta) σ H (Rr a) := fun H1 e Q q =>
  h H1 e _ fun H2 e2 => ⟨a, by rw [List.append_nil]; exact hp H2 (e.trans e2), fun v H3 e3 hr => q v H3 (e2.trans e3) hr⟩
/-- fields -/
theorem ev_fld {a C dx : Addr} {fs : List (Str × V)} {f : Str} (h : Ev te σ H (.ref a)) (ho : H a = some (.ins C dx fs)) (c : Cls K C) (n : NoAttr K C f) (hf : fs.lookup f = some v) : Ev (tFld K te f) σ H v := fun H1 e Q q =>
  h H1 e _ fun H2 e2 => ⟨a, C, dx, fs, v, rfl, (e.trans e2) a _ ho, c, n, hf, q H2 e2⟩
theorem er_meth {α : Type} {Pre : α → Hp → List V → Prop} {Rr : α → Hp → V → Prop} {E : XK} {ta : TA} {a C dx : Addr} {fs : List (Str × V)} {m : Str} {vs : List V} (b : α) (ho : Ev te σ H (.ref a)) (hi : H a = some (.ins C dx fs)) (hm : fs.lookup m = none) (h : EvA ta σ H vs)
    (hp : ∀ H1, Ex H H1 → Pre b H1 (.ref a :: vs)) : ER (tMeth C m (mkSp Pre Rr) [] E te ta) σ H (Rr b) := fun H1 e Q q =>
  ho H1 e _ fun H2 e2 => ⟨a, dx, fs, rfl, (e.trans e2) a _ hi, hm, h H2 (e.trans e2) _ fun H3 e3 => ⟨b, by rw [List.append_nil]; exact hp H3 ((e.trans e2).trans e3), fun v H4 e4 hr => q v H4 ((e2.trans e3).trans e4) hr⟩⟩
/-- subscripts -/
theorem rv_ixt {p : Addr} {xs : List V} {i : Int} (h : H p = some (.tup xs)) (ha : atI xs i = some v) : RV (rIx K) (.ref p) (.int i) H v := fun H1 e Q q => Or.inr (Or.inl (rv_ixT (st_of h) ha H1 e Q q))
theorem rv_ixl {p : Addr} {xs : List V} {i : Int} (h : H p = some (.lst xs)) (ha : atI xs i = some v) : RV (rIx K) (.ref p) (.int i) H v := fun H1 e Q q => Or.inl (rv_ixL (sq_of h) ha H1 e Q q)
theorem ev_ixt {xs : List V} {i : Int} (h : Ev te σ H x) (ht : TN H x xs) (hi : Ev tb σ H (.int i)) (ha : atI xs i = some v) : Ev (tOp (rIx K) te tb) σ H v := by
  obtain ⟨a, rfl, ht⟩ := ht
  exact ev_op h hi (rv_ixt ht ha)
theorem ev_x {p : Pt} (h : Ev te σ H x) (ht : T2 H x p) : Ev (tOp (rIx K) te (tC (.int 0))) σ H (.int p.1) := ev_ixt h ht ev_c rfl
theorem ev_y {p : Pt} (h : Ev te σ H x) (ht : T2 H x p) : Ev (tOp (rIx K) te (tC (.int 1))) σ H (.int p.2) := ev_ixt h ht ev_c rfl
/-- a subscript of what is only known by what stands there -/
theorem er_ixt {xs : List V} {i : Int} (h : ER te σ H (fun H' v => TN H' v xs)) (hi : Ev tb σ H (.int i)) (ha : atI xs i = some v) : Ev (tOp (rIx K) te tb) σ H v := fun H1 e Q q =>
  h H1 e _ fun w H2 e2 ⟨a, h1, h2⟩ => hi H2 (e.trans e2) _ fun H3 e3 => by
    subst h1
    exact rv_ixt (e3 _ _ h2) ha H3 (Ex.refl H3) Q fun H4 e4 => q H4 ((e2.trans e3).trans e4)
theorem atI_natX {xs : List V} {i : Nat} (h : xs[i]? = some v) : atI xs (i : Int) = some v := atI_nat h
theorem ev_ixl {a : Addr} {xs : List V} {i : Nat} (h : Ev te σ H (.ref a)) (hl : H a = some (.lst xs)) (hi : Ev tb σ H (.int (i : Int))) (ha : xs[i]? = some v) : Ev (tOp (rIx K) te tb) σ H v := ev_op h hi (rv_ixl hl (atI_natX ha))
/-! ### statements -/
variable {D : Ends} {tu tw tz : TS}
theorem s_asgR {i : Nat} (h : ER te σ H R) (k : ∀ v H1, Ex H H1 → R H1 v → D.nx (σ.set i (some v)) H1) : tAsg te (gName i) D σ H := h H (Ex.refl H) _ fun v H1 e r => k v H1 e r
theorem q_asgR {i : Nat} (h : ER te σ H R) (k : ∀ v H1, Ex H H1 → R H1 v → tz D (σ.set i (some v)) H1) : tSeq (tAsg te (gName i)) tz D σ H := s_asgR (D := { D with nx := tz D }) h k
theorem s_retR (h : ER te σ H R) (k : ∀ v H1, Ex H H1 → R H1 v → D.rt v H1) : tRet te D σ H := h H (Ex.refl H) _ k
/-- a, b = e (two names) of a tuple of two -/
theorem q_asg2 {i j : Nat} {S : Hp → V → V → Prop} (h : ER te σ H (fun H' v => ∃ x y, TN H' v [x, y] ∧ S H' x y)) (k : ∀ x y H1, Ex H H1 → S H1 x y → tz D ((σ.set i (some x)).set j (some y)) H1) : tSeq (tAsg te (gTup K 2 (gCons (gName i) (gCons (gName j) gNil)))) tz D σ H :=
  h H (Ex.refl H) _ fun v H1 e ⟨x, y, ⟨a, h1, h2⟩, hs⟩ => ⟨a, [x, y], h1, st_of h2, rfl, x, [y], rfl, y, [], rfl, rfl, k x y H1 e hs⟩
theorem q_par {i j : Nat} {P : Hp → List V → Prop} {ta : TA} (h : AR ta σ H (fun H' vs => ∃ x y, vs = [x, y] ∧ P H' [x, y])) (k : ∀ x y H1, Ex H H1 → P H1 [x, y] → tz D ((σ.set i (some x)).set j (some y)) H1) : tSeq (tPar i j ta) tz D σ H :=
  h H (Ex.refl H) _ fun vs H1 e ⟨x, y, h1, h2⟩ => ⟨x, y, h1, k x y H1 e h2⟩
theorem s_par {i j : Nat} {P : Hp → List V → Prop} {ta : TA} (h : AR ta σ H (fun H' vs => ∃ x y, vs = [x, y] ∧ P H' [x, y])) (k : ∀ x y H1, Ex H H1 → P H1 [x, y] → D.nx ((σ.set i (some x)).set j (some y)) H1) : tPar i j ta D σ H :=
  h H (Ex.refl H) _ fun vs H1 e ⟨x, y, h1, h2⟩ => ⟨x, y, h1, k x y H1 e h2⟩
/-- .. of two numbers, of values -/
theorem q_parV {i j : Nat} {ta : TA} (h : EvA ta σ H [x, y]) (k : ∀ H1, Ex H H1 → tz D ((σ.set i (some x)).set j (some y)) H1) : tSeq (tPar i j ta) tz D σ H :=
  h H (Ex.refl H) _ fun H1 e => ⟨x, y, rfl, k H1 e⟩
theorem s_parV {i j : Nat} {ta : TA} (h : EvA ta σ H [x, y]) (k : ∀ H1, Ex H H1 → D.nx ((σ.set i (some x)).set j (some y)) H1) : tPar i j ta D σ H :=
  h H (Ex.refl H) _ fun H1 e => ⟨x, y, rfl, k H1 e⟩
theorem q_par3V {i j l : Nat} {ta : TA} (h : EvA ta σ H [x, y, z]) (k : ∀ H1, Ex H H1 → tz D (((σ.set i (some x)).set j (some y)).set l (some z)) H1) : tSeq (tPar3 i j l ta) tz D σ H :=
  h H (Ex.refl H) _ fun H1 e => ⟨x, y, z, rfl, k H1 e⟩
end
/-! ### comprehensions -/
/-- what rests on tuples alone -/
def TupUp (H H' : Hp) : Prop := ∀ a xs, H a = some (.tup xs) → H' a = some (.tup xs)
def MoT {α : Type} (S : Hp → V → α → Prop) : Prop := ∀ H H' v x, TupUp H H' → S H v x → S H' v x
theorem Ex.tup {H H' : Hp} (e : Ex H H') : TupUp H H' := fun a xs h => e a _ h
theorem MoT.mo {α : Type} {S : Hp → V → α → Prop} (m : MoT S) : Mo2 S := fun _ _ _ _ e => m _ _ _ _ (Ex.tup e)
theorem TupUp.lst {H : Hp} {p : Addr} {xs : List V} {o : HO} (h : H p = some (.lst xs)) : TupUp H (upd H p o) := fun a ys ha => by
  rw [upd_ne fun e => by rw [e, h] at ha; cases ha]
  exact ha
theorem mt_int : MoT IsI := fun _ _ _ _ _ h => h
theorem mt_bl : MoT IsB := fun _ _ _ _ _ h => h
theorem mt_tn : MoT TN := fun _ _ _ _ e ⟨a, h1, h2⟩ => ⟨a, h1, e a _ h2⟩
theorem mt_t2 : MoT T2 := fun _ _ _ _ e h => mt_tn _ _ _ _ e h
theorem mt_tpp : MoT TPP := fun _ _ _ _ e ⟨a, x, y, h1, h2, h3, h4⟩ => ⟨a, x, y, h1, e a _ h2, mt_t2 _ _ _ _ e h3, mt_t2 _ _ _ _ e h4⟩
/-- one turn -/
def Tn {α β : Type} (S : Hp → V → α → Prop) (S' : Hp → V → β → Prop) (g : TG) (tt : TT) (te : TE) (σw : L2.St) (own : List Nat) (keep : α → Bool) (out : α → β) (x : α) (H : Hp) : Prop :=
  ∀ v H1, Ex H H1 → S H1 v x → ∃ σ2, (∀ Q : L2.St → Hp → Prop, Q σ2 H1 → g v σw H1 Q) ∧ wipe σ2 own = σw ∧ EvT tt σ2 H1 (keep x) ∧ (keep x = true → ER te σ2 H1 (fun H' w => S' H' w (out x)))
def CwR {β : Type} (S' : Hp → V → β → Prop) (H : Hp) (Dl : Addr) (ys : List β) (H' : Hp) : Prop := H Dl = none ∧ Ex H H' ∧ ∃ acc, H' Dl = some (.lst acc) ∧ All2 (S' H') acc ys
section
variable {K : PySem.W.Frag} {σ : L2.St} {H : Hp} {te tl : TE} {tt : TT} {g : TG}
theorem take_succ_f {α β : Type} {xs : List α} {i : Nat} {x : α} (h : xs[i]? = some x) (f : α → Bool) (o : α → β) : ((xs.take (i + 1)).filter f).map o = ((xs.take i).filter f).map o ++ (if f x = true then [o x] else []) := by
  rw [List.take_succ, h, List.filter_append, List.map_append]
  congr 1
  show (List.filter f [x]).map o = _
  rw [List.filter_cons]
  by_cases hf : f x = true
  · rw [if_pos hf, if_pos hf]
    rfl
  · rw [if_neg hf, if_neg hf]
    rfl
theorem cwR_turn {α β : Type} {S' : Hp → V → β → Prop} {σ2 : L2.St} {keep : α → Bool} {out : α → β} {x : α} {ys : List β} {Dl : Addr} {H' : Hp} (mS : MoT S') (p : CwR S' H Dl ys H') (hz : ys.length < 50000)
    (ht : EvT tt σ2 H' (keep x)) (he : keep x = true → ER te σ2 H' (fun H' w => S' H' w (out x))) :
    tt σ2 H' fun b H3 => if b = true then te σ2 H3 fun y H4 => ∃ acc, H4 Dl = some (.lst acc) ∧ acc.length < sizeLine ∧ CwR S' H Dl (ys ++ (if keep x = true then [out x] else [])) (upd H4 Dl (.lst (acc ++ [y]))) else CwR S' H Dl (ys ++ (if keep x = true then [out x] else [])) H3 := by
  obtain ⟨p1, p2, acc, p3, p4⟩ := p
  refine ht H' (Ex.refl H') _ fun H3 e3 => ?_
  by_cases hf : keep x = true
  · rw [hf]
    show te σ2 H3 fun y H4 => ∃ acc, H4 Dl = some (.lst acc) ∧ acc.length < sizeLine ∧ CwR S' H Dl (ys ++ [out x]) (upd H4 Dl (.lst (acc ++ [y])))
    refine he hf H3 e3 _ fun y H4 e4 r => ⟨acc, e4 _ _ (e3 _ _ p3), ?_, p1, Ex.mut ((p2.trans e3).trans e4) p1, acc ++ [y], upd_same, ?_⟩
    · exact sz_lt (by have := p4.1; omega)
    · have hl : H4 Dl = some (.lst acc) := e4 _ _ (e3 _ _ p3)
      refine All2.app (p4.mono fun v x h => mS _ _ _ _ (TupUp.lst hl) (mS.mo _ _ _ _ (e3.trans e4) h)) (All2.one (mS _ _ _ _ (TupUp.lst hl) r))
  · have hf : keep x = false := by simpa using hf
    rw [hf]
    show CwR S' H Dl (ys ++ []) H3
    rw [List.append_nil]
    exact ⟨p1, p2.trans e3, acc, e3 _ _ p3, p4.mono fun v x h => mS.mo _ _ _ _ e3 h⟩
/-- a comprehension over a list -/
theorem er_lc {α β : Type} {S : Hp → V → α → Prop} {S' : Hp → V → β → Prop} {own : List Nat} {xs : List α} (keep : α → Bool) (out : α → β) (mS : Mo2 S) (mS' : MoT S') (h : ER tl σ H (fun H' v => LR S H' v xs)) (hz : xs.length ≤ 40000)
    (turn : ∀ x H1, x ∈ xs → Ex H H1 → Tn S S' g tt te (wipe σ own) own keep out x H1) : ER (tLc (iList K tl) g tt te own) σ H (fun H' v => LR S' H' v ((xs.filter keep).map out)) := fun H0 e Q q => h H0 e _ fun v H1 e1 ⟨a, vs, h1, h2, h3⟩ => by
  refine ⟨a, h1, ⟨vs, sq_of h2⟩, fun Dl hD => lc_list (xs := vs) (fun i H' => CwR S' H1 Dl (((xs.take i).filter keep).map out) H') ⟨hD, Ex.new hD, [], upd_same, All2.nil⟩ (fun i H' _ p => sq_of (p.2.1 a _ h2)) (fun i v H' hi p => ?_) (fun H' p => ?_)⟩
  · obtain ⟨x, hx, sx⟩ := h3.atV hi
    obtain ⟨σ2, g1, g2, g3, g4⟩ := turn x H' (List.mem_of_getElem? hx) ((e.trans e1).trans p.2.1) v H' (Ex.refl H') (mS _ _ _ _ p.2.1 sx)
    refine g1 _ ⟨g2, ?_⟩
    rw [take_succ_f hx]
    refine cwR_turn mS' p ?_ g3 g4
    have := List.length_filter_le keep (xs.take i)
    rw [List.length_map]
    have h6 : (xs.take i).length ≤ xs.length := by rw [List.length_take]; omega
    omega
  · obtain ⟨p1, p2, acc, p3, p4⟩ := p
    refine q _ _ (e1.trans p2) ⟨Dl, acc, rfl, p3, ?_⟩
    rw [h3.1, List.take_length] at p4
    exact p4
/-- .. over range(n) -/
theorem er_lcR {β : Type} {S' : Hp → V → β → Prop} {own : List Nat} {ta : TA} {n : Nat} (keep : Nat → Bool) (out : Nat → β) (mS' : MoT S') (h : EvA ta σ H [.int (n : Int)]) (hz : n ≤ 40000)
    (turn : ∀ (x : Nat) H1, x < n → Ex H H1 → Tn (fun _ v (x : Nat) => v = .int (x : Int)) S' g tt te (wipe σ own) own keep out x H1) : ER (tLc (iRng1 ta) g tt te own) σ H (fun H' v => LR S' H' v (((List.range n).filter keep).map out)) := fun H0 e Q q => h H0 e _ fun H1 e1 => by
  refine ⟨n, rfl, by omega, by omega, fun Dl hD => ?_⟩
  have e0 : ((n : Int)).toNat = n := Int.toNat_natCast n
  rw [e0]
  refine lc_range (lo := 0) (n := n) (fun i H' => CwR S' H1 Dl ((((List.range n).take i).filter keep).map out) H') ⟨hD, Ex.new hD, [], upd_same, All2.nil⟩ (fun i H' hi p => ?_) (fun H' p => ?_)
  · have hx : (List.range n)[i]? = some i := by rw [List.getElem?_range hi]
    obtain ⟨σ2, g1, g2, g3, g4⟩ := turn i H' hi ((e.trans e1).trans p.2.1) (.int ((0 : Int) + (i : Int))) H' (Ex.refl H') (by rw [Int.zero_add])
    refine g1 _ ⟨g2, ?_⟩
    rw [take_succ_f hx]
    refine cwR_turn mS' p ?_ g3 g4
    have := List.length_filter_le keep ((List.range n).take i)
    rw [List.length_map]
    have h6 : ((List.range n).take i).length ≤ n := by rw [List.length_take, List.length_range]; omega
    omega
  · obtain ⟨p1, p2, acc, p3, p4⟩ := p
    refine q _ _ (e1.trans p2) ⟨Dl, acc, rfl, p3, ?_⟩
    have ht : (List.range n).take n = List.range n := List.take_of_length_le (by rw [List.length_range]; exact Nat.le_refl _)
    rw [ht] at p4
    exact p4
end
end GF
set_option Elab.async false
set_option linter.all false
set_option maxRecDepth 100000
set_option maxHeartbeats 4000000
/-! Sizes of numbers; small rules over the calculus. -/
namespace GF
open PySem PySem.Spec PyProof.Rows L2 Evl
def Bd (n : Nat) (i : Int) : Prop := i.natAbs < 2 ^ n
theorem Bd.mono {n m : Nat} {i : Int} (h : Bd n i) (l : n ≤ m) : Bd m i := Nat.lt_of_lt_of_le h (Nat.pow_le_pow_right (by decide) l)
theorem Bd.of_le {n : Nat} {i j : Int} (h : Bd n j) (l : i.natAbs ≤ j.natAbs) : Bd n i := Nat.lt_of_le_of_lt l h
theorem pow_sum (n m : Nat) : 2 ^ n + 2 ^ m ≤ 2 ^ (n + m + 1) := by
  have h1 : 2 ^ n ≤ 2 ^ (n + m) := Nat.pow_le_pow_right (by decide) (by omega)
  have h2 : 2 ^ m ≤ 2 ^ (n + m) := Nat.pow_le_pow_right (by decide) (by omega)
  rw [Nat.pow_succ]
  omega
theorem Bd.add {n m : Nat} {i j : Int} (h : Bd n i) (g : Bd m j) : Bd (n + m + 1) (i + j) := by
  have := pow_sum n m
  unfold Bd at *
  omega
theorem Bd.sub {n m : Nat} {i j : Int} (h : Bd n i) (g : Bd m j) : Bd (n + m + 1) (i - j) := by
  have := pow_sum n m
  unfold Bd at *
  omega
theorem Bd.neg {n : Nat} {i : Int} (h : Bd n i) : Bd n (-i) := by
  unfold Bd at *
  omega
theorem Bd.mul {n m : Nat} {i j : Int} (h : Bd n i) (g : Bd m j) : Bd (n + m) (i * j) := wide_lt h g
theorem Bd.one : Bd 1 1 := by unfold Bd; decide
theorem Bd.zero : Bd 1 0 := by unfold Bd; decide
theorem Bd.two : Bd 2 2 := by unfold Bd; decide
theorem Bd.fdiv {n : Nat} {i j : Int} (h : Bd n i) : Bd n (i.fdiv j) := h.of_le (Int.natAbs_fdiv_le_natAbs i j)
theorem Bd.nn {n : Nat} {i j : Int} (h : Bd n j) (h0 : 0 ≤ i) (h1 : i ≤ j) : Bd n i := h.of_le (by omega)
theorem Bd.div {n : Nat} {i j : Int} (h : Bd n i) (hj : 0 < j) : Bd n (i / j) := by
  rw [← Int.fdiv_eq_ediv_of_nonneg i (by omega)]
  exact h.fdiv
theorem Bd.mod {n : Nat} {i j : Int} (h : Bd n j) (hj : 0 < j) : Bd n (i % j) := by
  have h1 := Int.emod_nonneg i (show j ≠ 0 by omega)
  have h2 := Int.emod_lt_of_pos i hj
  exact h.nn h1 (by omega)
theorem cmulB {n m : Nat} {i j : Int} (h : Bd n i) (g : Bd m j) (l : n + m ≤ 900000) : CMulW i j := wide_mul (a := n + 1) (b := m + 1) (h.mono (by omega)) (g.mono (by omega)) (by omega) (by omega) (by omega)
theorem cdivB {n : Nat} {i j : Int} (h : j ≠ 0) (g : Bd n j) (l : n ≤ 8000) : CDivX i j := divX_ok h (b := n + 1) (g.mono (by omega)) (by omega) (by omega)
theorem cdivP {n : Nat} {i j : Int} (h : 0 < j) (g : Bd n j) (l : n ≤ 8000) : CDivP i j := divP_ok (b := n + 1) h (g.mono (by omega)) (by omega) (by omega)
theorem len_mk {α : Type} {Pre : α → Hp → List V → Prop} {R : α → Hp → V → Prop} {n : Nat} (h : ∀ a H vs, Pre a H vs → vs.length = n) : ∀ (vs : List V) (H : Hp) (Q : VK) (E : XK), mkSp Pre R vs H Q E → vs.length = n := fun vs H _ _ ⟨a, hp, _⟩ => h a H vs hp
section
variable {K : PySem.W.Frag} {σ : L2.St} {H H' : Hp} {ta tb te tx tl : TE} {t u : TT} {x y z v : V}
/-- divmod -/
theorem er_divmod {ta : TA} {i j : Int} (h : EvA ta σ H [.int i, .int j]) (hc : CDivP i j) :
    ER (tCB (fun xs H Q => ∃ i j, xs = [.int i, .int j] ∧ CDivP i j ∧ ∀ p, H p = none → Q (.ref p) (upd H p (.tup [.int (i / j), .int (i % j)]))) ta) σ H (fun H' v => TN H' v [.int (i / j), .int (i % j)]) := fun H1 e Q q =>
  h H1 e _ fun H2 e2 => ⟨i, j, rfl, hc, fun p hp => q _ _ (e2.trans (Ex.new hp)) ⟨p, rfl, upd_same⟩⟩
theorem ea1 {x : V} (h : Ev ta σ H x) : EvA (tCons ta tNil) σ H [x] := ea_cons h ea_nil
theorem ea2 {x y : V} (h : Ev ta σ H x) (h2 : Ev tb σ H y) : EvA (tCons ta (tCons tb tNil)) σ H [x, y] := ea_cons h (ea1 h2)
theorem ea3 {x y z : V} (h : Ev ta σ H x) (h2 : Ev tb σ H y) (h3 : Ev tx σ H z) : EvA (tCons ta (tCons tb (tCons tx tNil))) σ H [x, y, z] := ea_cons h (ea2 h2 h3)
/-- e1, e2 = a tuple of known values -/
theorem q_asg2V {i j : Nat} {tz : TS} {D : Ends} {x y : V} (h : ER te σ H (fun H' v => TN H' v [x, y])) (k : ∀ H1, Ex H H1 → tz D ((σ.set i (some x)).set j (some y)) H1) : tSeq (tAsg te (gTup K 2 (gCons (gName i) (gCons (gName j) gNil)))) tz D σ H :=
  q_asg2 (S := fun _ a b => a = x ∧ b = y) (h.imp fun H1 v _ r => ⟨x, y, r, rfl, rfl⟩) fun a b H1 e ⟨h1, h2⟩ => by
    subst h1
    subst h2
    exact k H1 e
end
end GF
set_option Elab.async false
set_option linter.all false
/-! What the defs compute, in plain Lean. -/
namespace GF
abbrev P2 := Int × Int
/-- the sum of floors, with fuel -/
def fsM : Nat → Int → Int → Int → Int → Int
  | 0, _, _, _, _ => 0
  | k + 1, many, step, start, bottom => if many > 0 then
      (if (step % bottom * many + start % bottom) / bottom = 0 then step / bottom * (many * (many - 1)).fdiv 2 + start / bottom * many
       else step / bottom * (many * (many - 1)).fdiv 2 + start / bottom * many + fsM k ((step % bottom * many + start % bottom) / bottom) bottom ((step % bottom * many + start % bottom) % bottom) (step % bottom))
    else 0
def FS (many step start bottom : Int) : Int := fsM (bottom.toNat + 1) many step start bottom
def rup (top bottom : Int) : Int := -((-top).fdiv bottom)
def turnM (p q r : P2) : Int := (q.1 - p.1) * (r.2 - p.2) - (q.2 - p.2) * (r.1 - p.1)
end GF
set_option Elab.async false
set_option linter.all false
set_option maxRecDepth 100000
set_option maxHeartbeats 4000000
namespace GF
open PySem PySem.Spec PyProof.Rows L2 Evl
section
variable {P : Program} {w : World} {K : PySem.W.Frag} {mg : Str → Option Value} {base : Heap} {f : Addr} {fd : FuncData}
/-! ### floor_sum -/
def spFloor : Sp := mkSp (α := Int × Int × Int × Int) (fun a _ vs => vs = [.int a.1, .int a.2.1, .int a.2.2.1, .int a.2.2.2] ∧ Bd 3000 a.1 ∧ Bd 3000 a.2.1 ∧ Bd 3000 a.2.2.1 ∧ Bd 3000 a.2.2.2 ∧ 0 < a.2.2.2) (fun a _ v => v = .int (FS a.1 a.2.1 a.2.2.1 a.2.2.2))
theorem sc_floor_sum : FnScope ["many", "step", "start", "bottom", "found", "whole", "rest", "top"] ["many", "step", "start", "bottom"] (defScope s_floor_sum) := ⟨rfl, rfl, rfl, by decide +kernel, rfl, by decide +kernel, by decide +kernel⟩
theorem ok_floor_sum (F : FnP K "floor_sum" s_floor_sum f fd) (N : Nm mg) : FnOk P w K mg base CX0 1 f fd ["many", "step", "start", "bottom"] spFloor :=
  F.ok sc_floor_sum (len_mk fun _ _ _ h => by rw [h.1]; rfl) (fun cdv A outer s H vs Q E hr h => ⟨_, PSs.nox (pss_cons (ps_set (i := 4) sc_floor_sum.nd rfl (Or.inl rfl) pe_int) (pss_cons (ps_while PassesOwn.never (pt_cmpR op_gt (pv 0) pe_int (nomark _)) (pss_cons (ps_asg (pe_callB call_divmodW (by rfl) N.divmod (by decide +kernel) (pa_cons (pv 1) (pa_cons (pv 3) pa_nil))) (pg_tup rfl (pgs_cons (pg_name (i := 5) sc_floor_sum.nd rfl (Or.inl rfl)) (pgs_cons (pg_name (i := 1) sc_floor_sum.nd rfl (Or.inl rfl)) pgs_nil)))) (pss_cons (ps_asg (pe_callB call_divmodW (by rfl) N.divmod (by decide +kernel) (pa_cons (pv 2) (pa_cons (pv 3) pa_nil))) (pg_tup rfl (pgs_cons (pg_name (i := 6) sc_floor_sum.nd rfl (Or.inl rfl)) (pgs_cons (pg_name (i := 2) sc_floor_sum.nd rfl (Or.inl rfl)) pgs_nil)))) (pss_cons (ps_aug (i := 4) sc_floor_sum.nd rfl (Or.inl rfl) (pe_op op_add (pe_op op_mulW (pv 5) (pe_op op_fdivX (pe_op op_mulW (pv 0) (pe_op op_sub (pv 0) pe_int)) pe_int)) (pe_op op_mulW (pv 6) (pv 0))) ip_add) (pss_cons (ps_set (i := 7) sc_floor_sum.nd rfl (Or.inl rfl) (pe_op op_add (pe_op op_mulW (pv 1) (pv 0)) (pv 2))) (pss_cons (ps_asg (pe_callB call_divmodW (by rfl) N.divmod (by decide +kernel) (pa_cons (pv 7) (pa_cons (pv 3) pa_nil))) (pg_tup rfl (pgs_cons (pg_name (i := 0) sc_floor_sum.nd rfl (Or.inl rfl)) (pgs_cons (pg_name (i := 2) sc_floor_sum.nd rfl (Or.inl rfl)) pgs_nil)))) (pss_cons (ps_if (pt_cmpR op_eq (pv 0) pe_int (nomark _)) (pss_one ps_break) pss_nil) (pss_one (ps_par (i := 3) (j := 1) rfl sc_floor_sum.nd rfl rfl (by decide) rfl rfl (pa_cons (pv 1) (pa_cons (pv 3) pa_nil)) (by rfl)))))))))) (pss_one (ps_ret (pv 4))))), by
    obtain ⟨⟨many, step, start, bottom⟩, ⟨rfl, b1, b2, b3, b4, hb⟩, k⟩ := h
    refine q_asg ev_c fun H1 e1 => ?_
    refine q_while (fun m σ H' => Ex H H' ∧ ∃ (a b c d t : Int) (x y z : Option V), σ = [some (.int a), some (.int b), some (.int c), some (.int d), some (.int t), x, y, z] ∧ Bd 3000 a ∧ Bd 3000 b ∧ Bd 3000 c ∧ Bd 3000 d ∧ 0 < d ∧ d.toNat < m ∧ t + fsM m a b c d = FS many step start bottom) (bottom.toNat + 1) ⟨e1, many, step, start, bottom, 0, none, none, none, rfl, b1, b2, b3, b4, hb, Nat.lt_succ_self _, by rw [Int.zero_add]; rfl⟩ ?_
    rintro m σ H2 ⟨e2, a, b, c, d, t, x, y, z, rfl, c1, c2, c3, c4, hd, hm, ht⟩
    refine ⟨_, et_test (ev_op (ev_var rfl) ev_c rv_I0), fun hp H3 e3 => ?_, fun hp H3 e3 => ?_⟩
    · have hp : 0 < a := by simpa using hp
      obtain ⟨m, rfl⟩ : ∃ j, m = j + 1 := ⟨m - 1, by omega⟩
      have em := Int.emod_nonneg b (show d ≠ 0 by omega)
      have em2 := Int.emod_lt_of_pos b hd
      have en := Int.emod_nonneg c (show d ≠ 0 by omega)
      have en2 := Int.emod_lt_of_pos c hd
      have d1 : Bd 3000 (b / d) := c2.div hd
      have d2 : Bd 3000 (b % d) := c4.mod hd
      have d3 : Bd 3000 (c / d) := c3.div hd
      have d4 : Bd 3000 (c % d) := c4.mod hd
      have hle : (b % d * a + c % d) / d ≤ a := by
        have h1 : b % d * a ≤ (d - 1) * a := Int.mul_le_mul_of_nonneg_right (by omega) (by omega)
        have h2 : b % d * a + c % d < (a + 1) * d := by
          have : (d - 1) * a = d * a - a := by rw [Int.sub_mul, Int.one_mul]
          have e5 : (a + 1) * d = d * a + d := by rw [Int.add_mul, Int.one_mul, Int.mul_comm]
          omega
        have := Int.ediv_lt_of_lt_mul hd h2
        omega
      have hge : 0 ≤ (b % d * a + c % d) / d := Int.ediv_nonneg (by have := Int.mul_nonneg em (show 0 ≤ a by omega); omega) (by omega)
      have d5 : Bd 3000 ((b % d * a + c % d) / d) := c1.nn hge hle
      have d6 : Bd 3000 ((b % d * a + c % d) % d) := c4.mod hd
      rw [fsM, if_pos hp] at ht
      refine ⟨fun σ H' => ∃ m', m' < m + 1 ∧ (Ex H H' ∧ ∃ (a b c d t : Int) (x y z : Option V), σ = [some (.int a), some (.int b), some (.int c), some (.int d), some (.int t), x, y, z] ∧ Bd 3000 a ∧ Bd 3000 b ∧ Bd 3000 c ∧ Bd 3000 d ∧ 0 < d ∧ d.toNat < m' ∧ t + fsM m' a b c d = FS many step start bottom), fun _ _ h => h, ?_⟩
      refine q_asg2V (er_divmod (ea2 (ev_var rfl) (ev_var rfl)) (cdivP hd c4 (by decide))) fun H4 e4 => ?_
      refine q_asg2V (er_divmod (ea2 (ev_var rfl) (ev_var rfl)) (cdivP hd c4 (by decide))) fun H5 e5 => ?_
      refine q_aug (a := t) (b := b / d * (a * (a - 1)).fdiv 2 + c / d * a) rfl (by repeat' (first | exact ev_var rfl | exact ev_c | refine ev_op ?_ ?_ rv_I0 | refine ev_op ?_ ?_ (rv_I ?_) | refine ev_un ?_ ru_neg | assumption | exact Bd.one | exact Bd.zero | exact Bd.two | apply cmulB | refine cdivB (by decide) Bd.two (by decide) | apply Bd.mul | apply Bd.add | apply Bd.sub | apply Bd.neg | apply Bd.fdiv | decide)) fun H6 e6 => ?_
      refine q_asg (v := .int (b % d * a + c % d)) (by repeat' (first | exact ev_var rfl | exact ev_c | refine ev_op ?_ ?_ rv_I0 | refine ev_op ?_ ?_ (rv_I ?_) | refine ev_un ?_ ru_neg | assumption | exact Bd.one | exact Bd.zero | exact Bd.two | apply cmulB | refine cdivB (by decide) Bd.two (by decide) | apply Bd.mul | apply Bd.add | apply Bd.sub | apply Bd.neg | apply Bd.fdiv | decide)) fun H7 e7 => ?_
      refine q_asg2V (er_divmod (ea2 (ev_var rfl) (ev_var rfl)) (cdivP hd c4 (by decide))) fun H8 e8 => ?_
      refine q_when (et_test (ev_op (ev_var rfl) ev_c (rv_eq rfl))) (fun hz H9 e9 => ?_) (fun hz H9 e9 => ?_)
      · have hz : (b % d * a + c % d) / d = 0 := by simpa using hz
        rw [if_pos hz] at ht
        refine s_ret (ev_var rfl) fun H10 e10 => k _ _ ((((((((e2.trans e3).trans e4).trans e5).trans e6).trans e7).trans e8).trans e9).trans e10) ?_
        show V.int (t + _) = _
        rw [ht]
      · have hz : ¬ (b % d * a + c % d) / d = 0 := by simpa using hz
        rw [if_neg hz] at ht
        have hne : b % d ≠ 0 := fun hz0 => hz (by rw [hz0, Int.zero_mul, Int.zero_add]; exact Int.ediv_eq_zero_of_lt en en2)
        refine s_parV (ea2 (ev_var rfl) (ev_var rfl)) fun H10 e10 => ⟨m, Nat.lt_succ_self _, (((((((e2.trans e3).trans e4).trans e5).trans e6).trans e7).trans e8).trans e9).trans e10, _, _, _, _, _, _, _, _, rfl, d5, c4, d6, d2, by omega, by omega, ?_⟩
        rw [← ht]
        omega
    · have hp : ¬ 0 < a := by simpa using hp
      refine s_ret (ev_var rfl) fun H4 e4 => k _ _ ((e2.trans e3).trans e4) ?_
      show V.int t = _
      rw [← ht]
      cases m with
      | zero => rw [fsM, Int.add_zero]
      | succ n => rw [fsM, if_neg hp, Int.add_zero]⟩)
/-! ### round_up, turn_at -/
def spRup : Sp := mkSp (α := Int × Int) (fun a _ vs => vs = [.int a.1, .int a.2] ∧ a.2 ≠ 0 ∧ Bd 3000 a.2) (fun a _ v => v = .int (rup a.1 a.2))
theorem sc_round_up : FnScope ["top", "bottom"] ["top", "bottom"] (defScope s_round_up) := ⟨rfl, rfl, rfl, by decide +kernel, rfl, by decide +kernel, by decide +kernel⟩
theorem ok_round_up (F : FnP K "round_up" s_round_up f fd) : FnOk P w K mg base CX0 1 f fd ["top", "bottom"] spRup :=
  F.ok sc_round_up (len_mk fun _ _ _ h => by rw [h.1]; rfl) (fun cdv A outer s H vs Q E hr h => ⟨_, PSs.nox (pss_one (ps_ret (pe_un un_neg (pe_op op_fdivX (pe_un un_neg (pv 0)) (pv 1))))), by
    obtain ⟨⟨a, b⟩, ⟨rfl, h1, h2⟩, k⟩ := h
    exact s_ret (ev_un (ev_op (ev_un (ev_var rfl) ru_neg) (ev_var rfl) (rv_I (cdivB h1 h2 (by decide)))) ru_neg) fun H1 e => k _ _ e rfl⟩)
def spTurn : Sp := mkSp (α := Pt × Pt × Pt) (fun a H vs => ∃ x y z, vs = [x, y, z] ∧ T2 H x a.1 ∧ T2 H y a.2.1 ∧ T2 H z a.2.2 ∧ (Bd 3000 a.1.1 ∧ Bd 3000 a.1.2) ∧ (Bd 3000 a.2.1.1 ∧ Bd 3000 a.2.1.2) ∧ Bd 3000 a.2.2.1 ∧ Bd 3000 a.2.2.2) (fun a _ v => v = .int (turnM a.1 a.2.1 a.2.2))
theorem sc_turn_at : FnScope ["one", "two", "three"] ["one", "two", "three"] (defScope s_turn_at) := ⟨rfl, rfl, rfl, by decide +kernel, rfl, by decide +kernel, by decide +kernel⟩
theorem ok_turn_at (F : FnP K "turn_at" s_turn_at f fd) : FnOk P w K mg base CX0 1 f fd ["one", "two", "three"] spTurn :=
  F.ok sc_turn_at (len_mk fun _ _ _ ⟨_, _, _, h, _⟩ => by rw [h]; rfl) (fun cdv A outer s H vs Q E hr h => ⟨_, PSs.nox (pss_one (ps_ret (pe_op op_sub (pe_op op_mulW (pe_op op_sub (pe_ix ix_seq (pv 1) pe_int (fun _ _ => rfl)) (pe_ix ix_seq (pv 0) pe_int (fun _ _ => rfl))) (pe_op op_sub (pe_ix ix_seq (pv 2) pe_int (fun _ _ => rfl)) (pe_ix ix_seq (pv 0) pe_int (fun _ _ => rfl)))) (pe_op op_mulW (pe_op op_sub (pe_ix ix_seq (pv 1) pe_int (fun _ _ => rfl)) (pe_ix ix_seq (pv 0) pe_int (fun _ _ => rfl))) (pe_op op_sub (pe_ix ix_seq (pv 2) pe_int (fun _ _ => rfl)) (pe_ix ix_seq (pv 0) pe_int (fun _ _ => rfl))))))), by
    obtain ⟨⟨p, q, r⟩, ⟨x, y, z, rfl, t1, t2, t3, ⟨b1, b2⟩, ⟨b3, b4⟩, b5, b6⟩, k⟩ := h
    have x1 : Ev (tVar 0) (L2.start ["one", "two", "three"] [x, y, z]) H x := ev_var rfl
    have x2 : Ev (tVar 1) (L2.start ["one", "two", "three"] [x, y, z]) H y := ev_var rfl
    have x3 : Ev (tVar 2) (L2.start ["one", "two", "three"] [x, y, z]) H z := ev_var rfl
    refine s_ret (ev_op (ev_op (ev_op (ev_x x2 t2) (ev_x x1 t1) rv_I0) (ev_op (ev_y x3 t3) (ev_y x1 t1) rv_I0) (rv_I ?_)) (ev_op (ev_op (ev_y x2 t2) (ev_y x1 t1) rv_I0) (ev_op (ev_x x3 t3) (ev_x x1 t1) rv_I0) (rv_I ?_)) rv_I0) fun H1 e => k _ _ e rfl
    all_goals exact (by repeat' (first | assumption | exact Bd.one | exact Bd.zero | exact Bd.two | apply cmulB | refine cdivB (by decide) Bd.two (by decide) | apply Bd.mul | apply Bd.add | apply Bd.sub | apply Bd.neg | apply Bd.fdiv | decide))⟩)
theorem sc_law_turn : FnScope ["_law_one", "_law_two", "_law_three", "_law_wide", "_law_high"] ["_law_one", "_law_two", "_law_three"] (defScope s_law_turn) := ⟨rfl, rfl, rfl, by decide +kernel, rfl, by decide +kernel, by decide +kernel⟩
theorem ok_law_turn (F : FnP K "_law_turn" s_law_turn f fd) : FnOk P w K mg base CX0 1 f fd ["_law_one", "_law_two", "_law_three"] spTurn :=
  F.ok sc_law_turn (len_mk fun _ _ _ ⟨_, _, _, h, _⟩ => by rw [h]; rfl) (fun cdv A outer s H vs Q E hr h => ⟨_, PSs.nox (pss_cons (ps_par (i := 3) (j := 4) rfl sc_law_turn.nd rfl rfl (by decide) rfl rfl (pa_cons (pe_op op_sub (pe_ix ix_seq (pv 1) pe_int (fun _ _ => rfl)) (pe_ix ix_seq (pv 0) pe_int (fun _ _ => rfl))) (pa_cons (pe_op op_sub (pe_ix ix_seq (pv 1) pe_int (fun _ _ => rfl)) (pe_ix ix_seq (pv 0) pe_int (fun _ _ => rfl))) pa_nil)) (by rfl)) (pss_one (ps_ret (pe_op op_sub (pe_op op_mulW (pv 3) (pe_op op_sub (pe_ix ix_seq (pv 2) pe_int (fun _ _ => rfl)) (pe_ix ix_seq (pv 0) pe_int (fun _ _ => rfl)))) (pe_op op_mulW (pv 4) (pe_op op_sub (pe_ix ix_seq (pv 2) pe_int (fun _ _ => rfl)) (pe_ix ix_seq (pv 0) pe_int (fun _ _ => rfl)))))))), by
    obtain ⟨⟨p, q, r⟩, ⟨x, y, z, rfl, t1, t2, t3, ⟨b1, b2⟩, ⟨b3, b4⟩, b5, b6⟩, k⟩ := h
    refine q_parV (ea2 (ev_op (ev_x (ev_var rfl) t2) (ev_x (ev_var rfl) t1) rv_I0) (ev_op (ev_y (ev_var rfl) t2) (ev_y (ev_var rfl) t1) rv_I0)) fun H1 e => ?_
    have t1' := mo_t2 _ _ _ _ e t1
    have t3' := mo_t2 _ _ _ _ e t3
    refine s_ret (ev_op (ev_op (ev_var rfl) (ev_op (ev_y (ev_var rfl) t3') (ev_y (ev_var rfl) t1') rv_I0) (rv_I ?_)) (ev_op (ev_var rfl) (ev_op (ev_x (ev_var rfl) t3') (ev_x (ev_var rfl) t1') rv_I0) (rv_I ?_)) rv_I0) fun H2 e2 => k _ _ (e.trans e2) rfl
    all_goals exact (by repeat' (first | assumption | exact Bd.one | exact Bd.zero | exact Bd.two | apply cmulB | refine cdivB (by decide) Bd.two (by decide) | apply Bd.mul | apply Bd.add | apply Bd.sub | apply Bd.neg | apply Bd.fdiv | decide))⟩)
end
end GF
set_option Elab.async false
set_option linter.all false
/-! bezout: what it computes, and how large its numbers grow. -/
namespace GF
abbrev I3 := Int × Int × Int
def bzNext (h l : I3) : I3 := (h.1 - h.1.fdiv l.1 * l.1, h.2.1 - h.1.fdiv l.1 * l.2.1, h.2.2 - h.1.fdiv l.1 * l.2.2)
def bezF : Nat → I3 → I3 → I3
  | 0, h, _ => h
  | k + 1, h, l => if l.1 = 0 then h else bezF k l (bzNext h l)
def sgn (x : Int) : Int := if x ≥ 0 then 1 else -1
def bezL (one other : Int) : I3 := bezF (other.natAbs + 1) (one, 1, 0) (other, 0, 1)
def bezM (one other : Int) : P2 := (sgn (bezL one other).1 * (bezL one other).2.1, sgn (bezL one other).1 * (bezL one other).2.2)
/-- the rest's sign is the divisor's, it is smaller -/
theorem fm_facts (h l : Int) (hl : l ≠ 0) : (0 < l ∧ 0 ≤ h - h.fdiv l * l ∧ h - h.fdiv l * l < l) ∨ (l < 0 ∧ h - h.fdiv l * l ≤ 0 ∧ l < h - h.fdiv l * l) := by
  have e := Int.mul_fdiv_add_fmod h l
  rw [Int.mul_comm] at e
  rcases Int.lt_or_gt_of_ne hl with n | p
  · right
    have e2 : h.fmod l = -((-h).fmod (-l)) := by rw [Int.neg_fmod_neg, Int.neg_neg]
    have h1 := Int.fmod_nonneg_of_pos (-h) (show 0 < -l by omega)
    have h2 := Int.fmod_lt_of_pos (-h) (show 0 < -l by omega)
    omega
  · left
    have h1 := Int.fmod_nonneg_of_pos h p
    have h2 := Int.fmod_lt_of_pos h p
    omega
theorem bz_small (h l : Int) (hl : l ≠ 0) : (h - h.fdiv l * l).natAbs < l.natAbs := by
  rcases fm_facts h l hl with a | a <;> omega
def Sg (h l : Int) : Prop := (0 < l ∧ l < h) ∨ (l < 0 ∧ h < l)
structure BzI (C : Nat) (h l : I3) : Prop where
  hb : h.2.1.natAbs ≤ C ∧ h.2.2.natAbs ≤ C
  st : l.1 ≠ 0 → Sg h.1 l.1 ∧ ∃ M : Nat, h.2.1.natAbs ≤ M ∧ h.2.2.natAbs ≤ M ∧ l.2.1.natAbs ≤ M ∧ l.2.2.natAbs ≤ M ∧ M * (h.1.natAbs * l.1.natAbs) ≤ C
theorem bz_abs {h1 q l1 : Int} {M : Nat} (a : h1.natAbs ≤ M) (b : l1.natAbs ≤ M) : (h1 - q * l1).natAbs ≤ (1 + q.natAbs) * M := by
  have e : (q * l1).natAbs ≤ q.natAbs * M := by rw [Int.natAbs_mul]; exact Nat.mul_le_mul_left _ b
  rw [Nat.add_mul, Nat.one_mul]
  omega
theorem BzI.le {C : Nat} {h l : I3} (I : BzI C h l) (hl : l.1 ≠ 0) : l.2.1.natAbs ≤ C ∧ l.2.2.natAbs ≤ C := by
  obtain ⟨sg, M, m1, m2, m3, m4, hM⟩ := I.st hl
  have : M ≤ C := by
    have : M * 1 ≤ M * (h.1.natAbs * l.1.natAbs) := Nat.mul_le_mul_left _ (Nat.mul_pos (by unfold Sg at sg; omega) (by omega))
    omega
  omega
theorem BzI.next {C : Nat} {h l : I3} (I : BzI C h l) (hl : l.1 ≠ 0) : BzI C l (bzNext h l) := by
  obtain ⟨sg, M, m1, m2, m3, m4, hM⟩ := I.st hl
  have fm := fm_facts h.1 l.1 hl
  refine ⟨I.le hl, fun hr => ?_⟩
  have hr : h.1 - h.1.fdiv l.1 * l.1 ≠ 0 := hr
  refine ⟨?_, (1 + (h.1.fdiv l.1).natAbs) * M, ?_, ?_, bz_abs m1 m3, bz_abs m2 m4, ?_⟩
  · show Sg l.1 (h.1 - h.1.fdiv l.1 * l.1)
    unfold Sg
    omega
  · rw [Nat.add_mul, Nat.one_mul]; omega
  · rw [Nat.add_mul, Nat.one_mul]; omega
  · show (1 + (h.1.fdiv l.1).natAbs) * M * (l.1.natAbs * (h.1 - h.1.fdiv l.1 * l.1).natAbs) ≤ C
    have e : h.1 = h.1.fdiv l.1 * l.1 + (h.1 - h.1.fdiv l.1 * l.1) := by omega
    generalize h.1 - h.1.fdiv l.1 * l.1 = r at *
    generalize h.1.fdiv l.1 = q at *
    have hq : q.natAbs * l.1.natAbs + r.natAbs = h.1.natAbs := by
      rw [← Int.natAbs_mul]
      have : 0 < q := by
        rcases sg with s | s
        · rcases Int.lt_or_le 0 q with c | c
          · exact c
          · have := Int.mul_nonneg (show 0 ≤ -q by omega) (show 0 ≤ l.1 by omega)
            rw [Int.neg_mul] at this
            omega
        · rcases Int.lt_or_le 0 q with c | c
          · exact c
          · have := Int.mul_nonneg (show 0 ≤ -q by omega) (show 0 ≤ -l.1 by omega)
            rw [Int.neg_mul_neg] at this
            omega
      rcases sg with s | s
      · have := Int.mul_nonneg (show 0 ≤ q by omega) (show 0 ≤ l.1 by omega)
        omega
      · have := Int.mul_nonneg (show 0 ≤ q by omega) (show 0 ≤ -l.1 by omega)
        rw [Int.mul_neg] at this
        omega
    have hrl : r.natAbs ≤ l.1.natAbs := by omega
    have h1 : (1 + q.natAbs) * r.natAbs ≤ h.1.natAbs := by
      rw [Nat.add_mul, Nat.one_mul]
      have := Nat.mul_le_mul_left q.natAbs hrl
      omega
    have h2 : (1 + q.natAbs) * M * (l.1.natAbs * r.natAbs) = M * (((1 + q.natAbs) * r.natAbs) * l.1.natAbs) := by
      simp only [Nat.mul_assoc, Nat.mul_comm, Nat.mul_left_comm]
    rw [h2]
    exact Nat.le_trans (Nat.mul_le_mul_left _ (Nat.mul_le_mul_right _ h1)) hM
theorem BzI.first {C : Nat} {one other : Int} (hl : other ≠ 0) (hC : (one.natAbs + 1) * (other.natAbs * other.natAbs) ≤ C) : BzI C (other, 0, 1) (bzNext (one, 1, 0) (other, 0, 1)) := by
  have hp : 1 ≤ other.natAbs * other.natAbs := Nat.mul_pos (by omega) (by omega)
  have h1 : (one.natAbs + 1) * 1 ≤ (one.natAbs + 1) * (other.natAbs * other.natAbs) := Nat.mul_le_mul_left _ hp
  refine ⟨⟨by show (0 : Nat) ≤ C; omega, by show (1 : Nat) ≤ C; omega⟩, fun hr => ?_⟩
  have hr : one - one.fdiv other * other ≠ 0 := hr
  have fm := fm_facts one other hl
  have hq := Int.natAbs_fdiv_le_natAbs one other
  refine ⟨?_, one.natAbs + 1, ?_, ?_, ?_, ?_, ?_⟩
  · show Sg other (one - one.fdiv other * other)
    unfold Sg
    omega
  · show (0 : Int).natAbs ≤ one.natAbs + 1
    omega
  · show (1 : Int).natAbs ≤ one.natAbs + 1
    omega
  · show (1 - one.fdiv other * 0).natAbs ≤ one.natAbs + 1
    rw [Int.mul_zero]
    omega
  · show (0 - one.fdiv other * 1).natAbs ≤ one.natAbs + 1
    rw [Int.mul_one]
    omega
  · refine Nat.le_trans (Nat.mul_le_mul_left _ (Nat.mul_le_mul_left _ ?_)) hC
    exact Nat.le_of_lt (bz_small one other hl)
end GF
set_option Elab.async false
set_option linter.all false
set_option maxRecDepth 100000
set_option maxHeartbeats 4000000
set_option exponentiation.threshold 100000
namespace GF
open PySem PySem.Spec PyProof.Rows L2 Evl
theorem er_tn {ta : TA} {σ : L2.St} {H : Hp} {vs : List V} (h : EvA ta σ H vs) (hl : vs.length ≤ 100000) : ER (tTup ta) σ H (fun H' v => TN H' v vs) := fun H1 e Q q =>
  h H1 e _ fun H2 e2 => ⟨sz_of hl, fun a ha => q _ _ (e2.trans (Ex.new ha)) ⟨a, rfl, upd_same⟩⟩
theorem ar_two {ta tb : TE} {σ : L2.St} {H : Hp} {R S : Hp → V → Prop} (h : ER ta σ H R) (m : Mo R) (g : ER tb σ H S) : AR (tCons ta (tCons tb tNil)) σ H (fun H' vs => ∃ x y, vs = [x, y] ∧ R H' x ∧ S H' y) := fun H1 e Q q =>
  h H1 e _ fun v H2 e2 r => g H2 (e.trans e2) _ fun u H3 e3 s => q [v, u] H3 (e2.trans e3) ⟨v, u, rfl, m _ _ _ e3 r, s⟩
theorem q_par2 {i j : Nat} {ta tb : TE} {tz : TS} {D : Ends} {σ : L2.St} {H : Hp} {R S : Hp → V → Prop} (h : ER ta σ H R) (m : Mo R) (g : ER tb σ H S) (k : ∀ x y H1, Ex H H1 → R H1 x → S H1 y → tz D ((σ.set i (some x)).set j (some y)) H1) : tSeq (tPar i j (tCons ta (tCons tb tNil))) tz D σ H :=
  ar_two h m g H (Ex.refl H) (fun vs H1 => ∃ v w, vs = [v, w] ∧ tz D ((σ.set i (some v)).set j (some w)) H1) fun vs H1 e ⟨x, y, h1, h2, h3⟩ => ⟨x, y, h1, k x y H1 e h2 h3⟩
theorem s_par2 {i j : Nat} {ta tb : TE} {D : Ends} {σ : L2.St} {H : Hp} {R S : Hp → V → Prop} (h : ER ta σ H R) (m : Mo R) (g : ER tb σ H S) (k : ∀ x y H1, Ex H H1 → R H1 x → S H1 y → D.nx ((σ.set i (some x)).set j (some y)) H1) : tPar i j (tCons ta (tCons tb tNil)) D σ H :=
  ar_two h m g H (Ex.refl H) (fun vs H1 => ∃ v w, vs = [v, w] ∧ D.nx ((σ.set i (some v)).set j (some w)) H1) fun vs H1 e ⟨x, y, h1, h2, h3⟩ => ⟨x, y, h1, k x y H1 e h2 h3⟩
def T3 (H : Hp) (v : V) (p : I3) : Prop := TN H v [.int p.1, .int p.2.1, .int p.2.2]
theorem mo_t3 : Mo2 T3 := fun _ _ _ _ e h => mo_tn _ _ _ _ e h
theorem ev_0 {K : PySem.W.Frag} {te : TE} {σ : L2.St} {H : Hp} {x : V} {p : I3} (h : Ev te σ H x) (ht : T3 H x p) : Ev (tOp (rIx K) te (tC (.int 0))) σ H (.int p.1) := ev_ixt h ht ev_c rfl
theorem ev_1 {K : PySem.W.Frag} {te : TE} {σ : L2.St} {H : Hp} {x : V} {p : I3} (h : Ev te σ H x) (ht : T3 H x p) : Ev (tOp (rIx K) te (tC (.int 1))) σ H (.int p.2.1) := ev_ixt h ht ev_c rfl
theorem ev_2 {K : PySem.W.Frag} {te : TE} {σ : L2.St} {H : Hp} {x : V} {p : I3} (h : Ev te σ H x) (ht : T3 H x p) : Ev (tOp (rIx K) te (tC (.int 2))) σ H (.int p.2.2) := ev_ixt h ht ev_c rfl
section
variable {P : Program} {w : World} {K : PySem.W.Frag} {mg : Str → Option Value} {base : Heap} {f : Addr} {fd : FuncData}
/-! ### bezout -/
def spBez : Sp := mkSp (α := Int × Int) (fun a _ vs => vs = [.int a.1, .int a.2] ∧ Bd 300 a.1 ∧ Bd 300 a.2) (fun a H v => T2 H v (bezM a.1 a.2) ∧ Bd 1100 (bezM a.1 a.2).1 ∧ Bd 1100 (bezM a.1 a.2).2)
def BzC (one other : Int) : Nat := (one.natAbs + 1) * (other.natAbs * other.natAbs) + 1
theorem bzC_lt {one other : Int} (h1 : Bd 300 one) (h2 : Bd 300 other) : BzC one other < 2 ^ 1000 := by
  unfold Bd at h1 h2
  unfold BzC
  have a : (one.natAbs + 1) * (other.natAbs * other.natAbs) ≤ 2 ^ 300 * (2 ^ 300 * 2 ^ 300) := Nat.mul_le_mul (by omega) (Nat.mul_le_mul (by omega) (by omega))
  have b : 2 ^ 300 * (2 ^ 300 * 2 ^ 300) + 1 < 2 ^ 1000 := by decide +kernel
  omega
theorem bd_C {C : Nat} {x : Int} (h : x.natAbs ≤ C) (hC : C < 2 ^ 1000) : Bd 1000 x := Nat.lt_of_le_of_lt h hC
theorem sc_bezout : FnScope ["one", "other", "here", "later", "times", "sign"] ["one", "other"] (defScope s_bezout) := ⟨rfl, rfl, rfl, by decide +kernel, rfl, by decide +kernel, by decide +kernel⟩
theorem ok_bezout (F : FnP K "bezout" s_bezout f fd) : FnOk P w K mg base CX0 1 f fd ["one", "other"] spBez :=
  F.ok sc_bezout (len_mk fun _ _ _ h => by rw [h.1]; rfl) (fun cdv A outer s H vs Q E hr h => ⟨_, PSs.nox (pss_cons (ps_par (i := 2) (j := 3) rfl sc_bezout.nd rfl rfl (by decide) rfl rfl (pa_cons (pe_tup (pa_cons (pv 0) (pa_cons pe_int (pa_cons pe_int pa_nil)))) (pa_cons (pe_tup (pa_cons (pv 1) (pa_cons pe_int (pa_cons pe_int pa_nil)))) pa_nil)) (by rfl)) (pss_cons (ps_while PassesOwn.never (pt_cmpR op_ne (pe_ix ix_seq (pv 3) pe_int (fun _ _ => rfl)) pe_int (nomark _)) (pss_cons (ps_set (i := 4) sc_bezout.nd rfl (Or.inl rfl) (pe_op op_fdivX (pe_ix ix_seq (pv 2) pe_int (fun _ _ => rfl)) (pe_ix ix_seq (pv 3) pe_int (fun _ _ => rfl)))) (pss_one (ps_par (i := 2) (j := 3) rfl sc_bezout.nd rfl rfl (by decide) rfl rfl (pa_cons (pv 3) (pa_cons (pe_tup (pa_cons (pe_op op_sub (pe_ix ix_seq (pv 2) pe_int (fun _ _ => rfl)) (pe_op op_mulW (pv 4) (pe_ix ix_seq (pv 3) pe_int (fun _ _ => rfl)))) (pa_cons (pe_op op_sub (pe_ix ix_seq (pv 2) pe_int (fun _ _ => rfl)) (pe_op op_mulW (pv 4) (pe_ix ix_seq (pv 3) pe_int (fun _ _ => rfl)))) (pa_cons (pe_op op_sub (pe_ix ix_seq (pv 2) pe_int (fun _ _ => rfl)) (pe_op op_mulW (pv 4) (pe_ix ix_seq (pv 3) pe_int (fun _ _ => rfl)))) pa_nil)))) pa_nil)) (by rfl))))) (pss_cons (ps_set (i := 5) sc_bezout.nd rfl (Or.inl rfl) (pe_ifExp (pt_cmpR op_ge (pe_ix ix_seq (pv 2) pe_int (fun _ _ => rfl)) pe_int (nomark _)) pe_int (pe_un un_neg pe_int))) (pss_one (ps_ret (pe_tup (pa_cons (pe_op op_mulW (pv 5) (pe_ix ix_seq (pv 2) pe_int (fun _ _ => rfl))) (pa_cons (pe_op op_mulW (pv 5) (pe_ix ix_seq (pv 2) pe_int (fun _ _ => rfl))) pa_nil)))))))), by
    obtain ⟨⟨one, other⟩, ⟨rfl, b1, b2⟩, k⟩ := h
    have b1 : Bd 300 one := b1
    have b2 : Bd 300 other := b2
    have hC := bzC_lt b1 b2
    refine q_par2 (er_tn (vs := [.int one, .int 1, .int 0]) (ea3 (ev_var rfl) ev_c ev_c) (by simp)) (mo_tn.at _) (er_tn (vs := [.int other, .int 0, .int 1]) (ea3 (ev_var rfl) ev_c ev_c) (by simp)) fun x0 y0 H1 e1 r1 r2 => ?_
    refine q_while (fun m σ H' => Ex H H' ∧ ∃ (hv lv : V) (h l : I3) (x y : Option V), σ = [some (.int one), some (.int other), some hv, some lv, x, y] ∧ T3 H' hv h ∧ T3 H' lv l ∧ l.1.natAbs < m ∧ bezF m h l = bezL one other ∧ Bd 300 h.1 ∧ Bd 300 l.1 ∧ ((h = (one, 1, 0) ∧ l = (other, 0, 1)) ∨ BzI (BzC one other) h l)) (other.natAbs + 1)
      ⟨e1, x0, y0, (one, 1, 0), (other, 0, 1), none, none, rfl, r1, r2, Nat.lt_succ_self _, rfl, b1, b2, Or.inl ⟨rfl, rfl⟩⟩ ?_
    rintro m σ H2 ⟨e2, hv, lv, h, l, x, y, rfl, t1, t2, hm, hF, c1, c2, hI⟩
    refine ⟨_, et_test (ev_op (ev_0 (ev_var rfl) t2) ev_c (rv_ne rfl)), fun hp H3 e3 => ?_, fun hp H3 e3 => ?_⟩
    · have hp : l.1 ≠ 0 := by simpa using hp
      obtain ⟨m, rfl⟩ : ∃ j, m = j + 1 := ⟨m - 1, by omega⟩
      rw [bezF, if_neg hp] at hF
      have hs : (Bd 1000 h.2.1 ∧ Bd 1000 h.2.2 ∧ Bd 1000 l.2.1 ∧ Bd 1000 l.2.2) ∧ BzI (BzC one other) l (bzNext h l) := by
        rcases hI with ⟨rfl, rfl⟩ | I
        · exact ⟨⟨Bd.one.mono (by decide), Bd.zero.mono (by decide), Bd.zero.mono (by decide), Bd.one.mono (by decide)⟩, BzI.first hp (Nat.le_succ _)⟩
        · exact ⟨⟨bd_C I.hb.1 hC, bd_C I.hb.2 hC, bd_C (I.le hp).1 hC, bd_C (I.le hp).2 hC⟩, I.next hp⟩
      obtain ⟨⟨d1, d2, d3, d4⟩, hI2⟩ := hs
      have dq : Bd 300 (h.1.fdiv l.1) := c1.fdiv
      have t1 := mo_t3 _ _ _ _ e3 t1
      have t2 := mo_t3 _ _ _ _ e3 t2
      refine ⟨fun σ H' => ∃ m', m' < m + 1 ∧ (Ex H H' ∧ ∃ (hv lv : V) (h l : I3) (x y : Option V), σ = [some (.int one), some (.int other), some hv, some lv, x, y] ∧ T3 H' hv h ∧ T3 H' lv l ∧ l.1.natAbs < m' ∧ bezF m' h l = bezL one other ∧ Bd 300 h.1 ∧ Bd 300 l.1 ∧ ((h = (one, 1, 0) ∧ l = (other, 0, 1)) ∨ BzI (BzC one other) h l)), fun _ _ h => h, ?_⟩
      refine q_asg (ev_op (ev_0 (ev_var rfl) t1) (ev_0 (ev_var rfl) t2) (rv_I (cdivB hp c2 (by decide)))) fun H4 e4 => ?_
      have t1 := mo_t3 _ _ _ _ e4 t1
      have t2 := mo_t3 _ _ _ _ e4 t2
      refine s_par2 (er_var rfl (mo_t3.at l) t2) (mo_t3.at l) (er_tn (vs := [.int (bzNext h l).1, .int (bzNext h l).2.1, .int (bzNext h l).2.2]) (ea3 (ev_op (ev_0 (ev_var rfl) t1) (ev_op (ev_var rfl) (ev_0 (ev_var rfl) t2) (rv_I (cmulB dq c2 (by decide)))) rv_I0)
        (ev_op (ev_1 (ev_var rfl) t1) (ev_op (ev_var rfl) (ev_1 (ev_var rfl) t2) (rv_I (cmulB dq d3 (by decide)))) rv_I0) (ev_op (ev_2 (ev_var rfl) t1) (ev_op (ev_var rfl) (ev_2 (ev_var rfl) t2) (rv_I (cmulB dq d4 (by decide)))) rv_I0)) (by simp)) fun x5 y5 H5 e5 r5 s5 => ?_
      have hsm := bz_small h.1 l.1 hp
      exact ⟨m, Nat.lt_succ_self _, ((e2.trans e3).trans e4).trans e5, x5, y5, l, bzNext h l, _, _, rfl, r5, s5, by show (h.1 - h.1.fdiv l.1 * l.1).natAbs < m; omega, hF, c2, Bd.of_le c2 (Nat.le_of_lt hsm), Or.inr hI2⟩
    · have hp : l.1 = 0 := by simpa using hp
      have hF : h = bezL one other := by
        cases m with
        | zero => exact hF
        | succ n => rwa [bezF, if_pos hp] at hF
      have t1 := mo_t3 _ _ _ _ e3 t1
      have hs : Bd 1000 h.2.1 ∧ Bd 1000 h.2.2 := by
        rcases hI with ⟨rfl, rfl⟩ | I
        · exact ⟨Bd.one.mono (by decide), Bd.zero.mono (by decide)⟩
        · exact ⟨bd_C I.hb.1 hC, bd_C I.hb.2 hC⟩
      have hsg : Bd 1 (sgn h.1) := by
        unfold sgn
        split
        · exact Bd.one
        · exact Bd.one.neg
      refine q_asg (v := .int (sgn h.1)) (ev_if (et_test (ev_op (ev_0 (ev_var rfl) t1) ev_c rv_I0)) (fun hb => ?_) (fun hb => ?_)) fun H4 e4 => ?_
      · have hb : h.1 ≥ 0 := by simpa using hb
        rw [sgn, if_pos hb]
        exact ev_c
      · have hb : ¬ h.1 ≥ 0 := by simpa using hb
        rw [sgn, if_neg hb]
        exact ev_un ev_c ru_neg
      have t1 := mo_t3 _ _ _ _ e4 t1
      refine s_retR (er_tn (vs := [.int (sgn h.1 * h.2.1), .int (sgn h.1 * h.2.2)]) (ea2 (ev_op (ev_var rfl) (ev_1 (ev_var rfl) t1) (rv_I (cmulB hsg hs.1 (by decide)))) (ev_op (ev_var rfl) (ev_2 (ev_var rfl) t1) (rv_I (cmulB hsg hs.2 (by decide))))) (by simp)) fun v H5 e5 r => k _ _ (((e2.trans e3).trans e4).trans e5) ?_
      subst hF
      exact ⟨r, (hsg.mul hs.1).mono (by decide), (hsg.mul hs.2).mono (by decide)⟩⟩)
/-! ### common_divisor -/
def spGcd : Sp := mkSp (α := Int × Int) (fun a _ vs => vs = [.int a.1, .int a.2]) (fun a _ v => v = .int (Int.gcd a.1 a.2))
theorem rc_abs {H : Hp} {i : Int} : RC (fun xs H Q => ∃ i, xs = [.int i] ∧ Q (.int (if i < 0 then -i else i)) H) [.int i] H (.int i.natAbs) := fun H1 _ Q q => ⟨i, rfl, by
  have e : (if i < 0 then -i else i) = (i.natAbs : Int) := by split <;> omega
  rw [e]
  exact q H1 (Ex.refl H1)⟩
theorem sc_common_divisor : FnScope ["one", "other"] ["one", "other"] (defScope s_common_divisor) := ⟨rfl, rfl, rfl, by decide +kernel, rfl, by decide +kernel, by decide +kernel⟩
theorem ok_common_divisor (F : FnP K "common_divisor" s_common_divisor f fd) (N : Nm mg) : FnOk P w K mg base CX0 1 f fd ["one", "other"] spGcd :=
  F.ok sc_common_divisor (len_mk fun _ _ _ h => by rw [h]; rfl) (fun cdv A outer s H vs Q E hr h => ⟨_, PSs.nox (pss_cons (ps_par (i := 0) (j := 1) rfl sc_common_divisor.nd rfl rfl (by decide) rfl rfl (pa_cons (pe_callB call_abs (by rfl) N.abs (by decide +kernel) (pa_cons (pv 0) pa_nil)) (pa_cons (pe_callB call_abs (by rfl) N.abs (by decide +kernel) (pa_cons (pv 1) pa_nil)) pa_nil)) (by rfl)) (pss_cons (ps_while PassesOwn.never (pt_cmpR op_gt (pv 1) pe_int (nomark _)) (pss_one (ps_par (i := 0) (j := 1) rfl sc_common_divisor.nd rfl rfl (by decide) rfl rfl (pa_cons (pv 1) (pa_cons (pe_op op_modN (pv 0) (pv 1)) pa_nil)) (by rfl)))) (pss_one (ps_ret (pv 0))))), by
    obtain ⟨⟨one, other⟩, rfl, k⟩ := h
    refine q_parV (x := .int one.natAbs) (y := .int other.natAbs) (ea2 (ev_cb (ea1 (ev_var rfl)) rc_abs) (ev_cb (ea1 (ev_var rfl)) rc_abs)) fun H1 e1 => ?_
    refine q_while (fun m σ H' => Ex H H' ∧ ∃ (a b : Nat), σ = [some (.int (a : Int)), some (.int (b : Int))] ∧ b < m ∧ Nat.gcd a b = Int.gcd one other) (other.natAbs + 1) ⟨e1, one.natAbs, other.natAbs, rfl, Nat.lt_succ_self _, rfl⟩ ?_
    rintro m σ H2 ⟨e2, a, b, rfl, hm, hg⟩
    refine ⟨_, et_test (ev_op (ev_var rfl) ev_c rv_I0), fun hp H3 e3 => ?_, fun hp H3 e3 => ?_⟩
    · have hp : 0 < b := by simpa using hp
      have e5 : ((a : Int).fmod (b : Int)) = ((a % b : Nat) : Int) := by
        rw [Int.fmod_eq_emod_of_nonneg _ (by omega)]
        rfl
      refine ⟨fun σ H' => ∃ m', m' < m ∧ (Ex H H' ∧ ∃ (a b : Nat), σ = [some (.int (a : Int)), some (.int (b : Int))] ∧ b < m' ∧ Nat.gcd a b = Int.gcd one other), fun _ _ h => h, ?_⟩
      refine s_parV (ea2 (ev_var rfl) (ev_op (ev_var rfl) (ev_var rfl) (rv_I (show (b : Int) ≠ 0 by omega)))) fun H4 e4 => ⟨b, hm, (e2.trans e3).trans e4, b, a % b, ?_, Nat.mod_lt _ hp, ?_⟩
      · rw [e5]
        rfl
      · rw [← hg, Nat.gcd_comm a b, Nat.gcd_rec b a, Nat.gcd_comm]
    · have hp : b = 0 := by simpa using hp
      subst hp
      rw [Nat.gcd_zero_right] at hg
      exact s_ret (ev_var rfl) fun H4 e4 => k _ _ ((e2.trans e3).trans e4) (congrArg (fun n : Nat => V.int (n : Int)) hg)⟩)
end
end GF
set_option Elab.async false
set_option linter.all false
/-! A fence in plain Lean, and when it is one. -/
namespace GF
def ptlt (p q : P2) : Prop := p.1 < q.1 ∨ (p.1 = q.1 ∧ p.2 < q.2)
instance : DecidableRel ptlt := fun p q => by unfold ptlt; exact inferInstance
def at_ (ps : List P2) (i : Nat) : P2 := ps.getD i (0, 0)
theorem at_get {ps : List P2} {i : Nat} (h : i < ps.length) : ps[i]? = some (at_ ps i) := by
  unfold at_
  rw [List.getD_eq_getElem?_getD, List.getElem?_eq_getElem h]
  rfl
/-- a polygon: the least corner first, each turn to the left, and each seen from the first -/
def Around (ps : List P2) : Prop := (∀ q ∈ ps, ¬ ptlt q (at_ ps 0)) ∧ (∀ i, i < ps.length → 0 < turnM (at_ ps i) (at_ ps ((i + 1) % ps.length)) (at_ ps ((i + 2) % ps.length))) ∧ ∀ i, 1 ≤ i → i + 1 < ps.length → 0 < turnM (at_ ps 0) (at_ ps i) (at_ ps (i + 1))
def Corners (ps : List P2) : Prop := 1 ≤ ps.length ∧ ps.length ≤ 10 ∧ (∀ p ∈ ps, p.1.natAbs ≤ 10 ^ 30 ∧ p.2.natAbs ≤ 10 ^ 30) ∧ (ps.length = 2 → ptlt (at_ ps 0) (at_ ps 1)) ∧ (3 ≤ ps.length → Around ps)
def sidesN (n : Nat) : Nat := if n > 1 then n else 0
abbrev Fen := Int × List P2 × List Nat
def Valid (q : Fen) : Prop := 1 ≤ q.1 ∧ q.1 ≤ 30 ∧ Corners q.2.1 ∧ q.2.2.Pairwise (· < ·) ∧ ∀ s ∈ q.2.2, s < sidesN q.2.1.length
end GF
set_option Elab.async false
set_option linter.all false
set_option maxRecDepth 100000
set_option maxHeartbeats 4000000
set_option exponentiation.threshold 100000
namespace GF
open PySem PySem.Spec PyProof.Rows L2 Evl
def IsN (_ : Hp) (v : V) (i : Nat) : Prop := v = .int (i : Int)
theorem mt_n : MoT IsN := fun _ _ _ _ _ h => h
theorem LR.nats {H : Hp} {v : V} {ns : List Nat} (h : LR IsN H v ns) : ∃ a, v = .ref a ∧ H a = some (.lst (ns.map fun n : Nat => V.int (n : Int))) := by
  obtain ⟨a, vs, e1, e2, e3⟩ := h
  have e4 : vs = ns.map fun n : Nat => V.int (n : Int) := by
    refine List.ext_getElem? fun i => ?_
    rw [List.getElem?_map]
    cases e : ns[i]? with
    | none =>
      have : ns.length ≤ i := by simpa using e
      have h2 : vs.length ≤ i := by have := e3.1; omega
      rw [List.getElem?_eq_none h2]
      rfl
    | some n =>
      obtain ⟨v, e5, e6⟩ := e3.at e
      rw [e5, e6]
      rfl
  rw [e4] at e2
  exact ⟨a, e1, e2⟩
/-- a fence as a value -/
def FenV (H : Hp) (v : V) (q : Fen) : Prop := ∃ a x y, v = .ref a ∧ H a = some (.tup [.int q.1, x, y]) ∧ LR T2 H x q.2.1 ∧ LR IsN H y q.2.2
theorem mo_fen : Mo2 FenV := fun _ _ _ _ e ⟨a, x, y, h1, h2, h3, h4⟩ => ⟨a, x, y, h1, e a _ h2, mo_lr mo_t2 _ _ _ _ e h3, mo_lr mt_n.mo _ _ _ _ e h4⟩
theorem FenV.tn {H : Hp} {v : V} {q : Fen} (h : FenV H v q) : ∃ x y, TN H v [.int q.1, x, y] ∧ LR T2 H x q.2.1 ∧ LR IsN H y q.2.2 := by
  obtain ⟨a, x, y, h1, h2, h3, h4⟩ := h
  exact ⟨x, y, ⟨a, h1, h2⟩, h3, h4⟩
/-- isinstance -/
theorem rc_isi {K : PySem.W.Frag} {H : Hp} {x : V} {n m : String} {b : Bool} (h : ∀ H1, Ex H H1 → TyX K H1 x (.type m)) (k : kitB m n = some b) : RC (rIsi K) [x, .ty n] H (.bl b) := fun H1 e Q q => ⟨x, _, _, _, b, rfl, .ty n, h H1 e, kit_ty k, q H1 (Ex.refl H1)⟩
theorem rc_len {K : PySem.W.Frag} {H : Hp} {a : Addr} {xs : List V} (h : H a = some (.lst xs) ∨ H a = some (.tup xs)) : RC (Evl.rLenS K) [.ref a] H (.int xs.length) := fun H1 e Q q => ⟨a, xs, rfl, h.elim (fun h => Or.inl (sq_of (e _ _ h))) (fun h => Or.inr (st_of (e _ _ h))), q H1 (Ex.refl H1)⟩
theorem ev_lenL {α : Type} {K : PySem.W.Frag} {S : Hp → V → α → Prop} {te : TE} {σ : L2.St} {H : Hp} {v : V} {xs : List α} (h : Ev te σ H v) (hl : LR S H v xs) : Ev (tCB (Evl.rLenS K) (tCons te tNil)) σ H (.int (xs.length : Int)) := by
  obtain ⟨a, vs, rfl, h2, h3⟩ := hl
  rw [← h3.1]
  exact ev_cb (ea1 h) (rc_len (Or.inl h2))
theorem ev_lenT {K : PySem.W.Frag} {te : TE} {σ : L2.St} {H : Hp} {v : V} {xs : List V} (h : Ev te σ H v) (hl : TN H v xs) : Ev (tCB (Evl.rLenS K) (tCons te tNil)) σ H (.int (xs.length : Int)) := by
  obtain ⟨a, rfl, h2⟩ := hl
  exact ev_cb (ea1 h) (rc_len (Or.inr h2))
/-- all([..]) -/
theorem ev_all {K : PySem.W.Frag} {te : TE} {σ : L2.St} {H : Hp} {bs : List Bool} (h : ER te σ H (fun H' v => LR IsB H' v bs)) : Ev (tCB (rAll K) (tCons te tNil)) σ H (.bl (bs.all id)) := fun H1 e Q q =>
  h H1 e _ fun v H2 e2 r => by
    obtain ⟨a, rfl, hl⟩ := r.bls
    exact ⟨a, bs, rfl, sq_of hl, q H2 e2⟩
/-- a chain -/
theorem ev_chain {r r' : R2} {ta tb tc : TE} {σ : L2.St} {H : Hp} {x y z : V} {b c : Bool} (ha : Ev ta σ H x) (hb : Ev tb σ H y) (hr : RV r x y H (.bl b)) (hc : b = true → Ev tc σ H z ∧ RV r' y z H (.bl c)) : Ev (tChain r r' ta tb tc) σ H (.bl (b && c)) := fun H1 e Q q =>
  ha H1 e _ fun H2 e2 => hb H2 (e.trans e2) _ fun H3 e3 => hr H3 ((e.trans e2).trans e3) _ fun H4 e4 => ⟨b, rfl, by
    cases b with
    | true =>
      obtain ⟨h1, h2⟩ := hc rfl
      exact h1 H4 (((e.trans e2).trans e3).trans e4) _ fun H5 e5 => h2 H5 ((((e.trans e2).trans e3).trans e4).trans e5) Q fun H6 e6 => q H6 ((((e2.trans e3).trans e4).trans e5).trans e6)
    | false => exact q H4 ((e2.trans e3).trans e4)⟩
/-- an item of a list that is known by what stands there -/
theorem er_ixL {α : Type} {K : PySem.W.Frag} {S : Hp → V → α → Prop} {te ti : TE} {σ : L2.St} {H : Hp} {v : V} {xs : List α} {i : Nat} {x : α} (h : Ev te σ H v) (hl : LR S H v xs) (mS : Mo2 S) (hi : Ev ti σ H (.int (i : Int))) (hx : xs[i]? = some x) : ∃ w, Ev (tOp (rIx K) te ti) σ H w ∧ S H w x := by
  obtain ⟨a, vs, rfl, h2, h3⟩ := hl
  obtain ⟨w, h4, h5⟩ := h3.at hx
  exact ⟨w, ev_ixl h h2 hi h4, h5⟩
theorem er_ixLast {α : Type} {K : PySem.W.Frag} {S : Hp → V → α → Prop} {te ti : TE} {σ : L2.St} {H : Hp} {v : V} {xs : List α} {x : α} (h : Ev te σ H v) (hl : LR S H v xs) (hi : Ev ti σ H (.int (-1))) (hx : xs.getLast? = some x) : ∃ w, Ev (tOp (rIx K) te ti) σ H w ∧ S H w x := by
  obtain ⟨a, vs, rfl, h2, h3⟩ := hl
  have hx2 : xs[xs.length - 1]? = some x := by rw [← List.getLast?_eq_getElem?]; exact hx
  obtain ⟨w, h4, h5⟩ := h3.at hx2
  have hne : vs ≠ [] := fun e => by
    rw [e] at h4
    simp at h4
  have e : vs = vs.dropLast ++ [w] := by
    have := List.dropLast_concat_getLast hne
    rw [← this]
    congr 1
    · simp
    · have h6 : vs[vs.length - 1]? = some w := by rw [h3.1]; exact h4
      rw [← List.getLast?_eq_getElem?, List.getLast?_eq_some_getLast hne] at h6
      simpa using h6
  refine ⟨w, ev_op h hi (rv_ixl h2 ?_), h5⟩
  rw [e]
  exact atI_last _ _
/-- slices of a list -/
theorem er_sl {α : Type} {K : PySem.W.Frag} {S : Hp → V → α → Prop} {te : TE} {tl th : TO} {σ : L2.St} {H : Hp} {v : V} {xs ys : List α} {lo hi : Option Int} (h : Ev te σ H v) (hl : LR S H v xs) (mS : Mo2 S) (h1 : EvO tl σ H lo) (h2 : EvO th σ H hi) (hc : ∀ vs, All2 (S H) vs xs → All2 (S H) (cutV vs lo hi) ys) : ER (tSl (rSlL K) te tl th) σ H (fun H' v => LR S H' v ys) := by
  obtain ⟨a, vs, rfl, h3, h4⟩ := hl
  refine fun H1 e Q q => el_sl h h1 h2 (sq_of h3) H1 e Q fun p H2 hp e2 h5 => q _ _ e2 ⟨p, _, rfl, h5, (hc vs h4).mono fun v x s => mS _ _ _ _ (e.trans e2) s⟩
/-- a comprehension over a tuple -/
theorem er_lcT {α β : Type} {K : PySem.W.Frag} {σ : L2.St} {H : Hp} {te tl : TE} {tt : TT} {g : TG} {S : Hp → V → α → Prop} {S' : Hp → V → β → Prop} {own : List Nat} {xs : List α} (keep : α → Bool) (out : α → β) (mS : Mo2 S) (mS' : MoT S') (h : ER tl σ H (fun H' v => ∃ vs, TN H' v vs ∧ All2 (S H') vs xs)) (hz : xs.length ≤ 40000)
    (turn : ∀ x H1, x ∈ xs → Ex H H1 → Tn S S' g tt te (wipe σ own) own keep out x H1) : ER (tLc (iTup K tl) g tt te own) σ H (fun H' v => LR S' H' v ((xs.filter keep).map out)) := fun H0 e Q q => h H0 e _ fun v H1 e1 ⟨vs, ⟨a, h1, h2⟩, h3⟩ => by
  refine ⟨a, h1, ⟨vs, st_of h2⟩, fun Dl hD => lc_tup (xs := vs) (fun i H' => CwR S' H1 Dl (((xs.take i).filter keep).map out) H') ⟨hD, Ex.new hD, [], upd_same, All2.nil⟩ (fun i H' _ p => st_of (p.2.1 a _ h2)) (fun i v H' hi p => ?_) (fun H' p => ?_)⟩
  · obtain ⟨x, hx, sx⟩ := h3.atV hi
    obtain ⟨σ2, g1, g2, g3, g4⟩ := turn x H' (List.mem_of_getElem? hx) ((e.trans e1).trans p.2.1) v H' (Ex.refl H') (mS _ _ _ _ p.2.1 sx)
    refine g1 _ ⟨g2, ?_⟩
    rw [take_succ_f hx]
    refine cwR_turn mS' p ?_ g3 g4
    have := List.length_filter_le keep (xs.take i)
    rw [List.length_map]
    have h6 : (xs.take i).length ≤ xs.length := by rw [List.length_take]; omega
    omega
  · obtain ⟨p1, p2, acc, p3, p4⟩ := p
    refine q _ _ (e1.trans p2) ⟨Dl, acc, rfl, p3, ?_⟩
    rw [h3.1, List.take_length] at p4
    exact p4
/-- a turn whose target is a name, without tests -/
theorem tn_name {α β : Type} {S : Hp → V → α → Prop} {S' : Hp → V → β → Prop} {te : TE} {σw : L2.St} {i : Nat} {out : α → β} {x : α} {H : Hp} (hw : ∀ v, wipe (σw.set i (some v)) [i] = σw) (he : ∀ v H1, Ex H H1 → S H1 v x → ER te (σw.set i (some v)) H1 (fun H' w => S' H' w (out x))) :
    Tn S S' (gName i) tYes te σw [i] (fun _ => true) out x H := fun v H1 e s => ⟨σw.set i (some v), fun _ q => q, hw v, fun H2 _ Q q => q H2 (Ex.refl H2), fun _ => he v H1 e s⟩
theorem tn_nameIf {α β : Type} {S : Hp → V → α → Prop} {S' : Hp → V → β → Prop} {te : TE} {tt : TT} {σw : L2.St} {i : Nat} {keep : α → Bool} {out : α → β} {x : α} {H : Hp} (hw : ∀ v, wipe (σw.set i (some v)) [i] = σw) (ht : ∀ v H1, Ex H H1 → S H1 v x → EvT tt (σw.set i (some v)) H1 (keep x)) (he : ∀ v H1, Ex H H1 → S H1 v x → keep x = true → ER te (σw.set i (some v)) H1 (fun H' w => S' H' w (out x))) :
    Tn S S' (gName i) tt te σw [i] keep out x H := fun v H1 e s => ⟨σw.set i (some v), fun _ q => q, hw v, ht v H1 e s, fun hk => he v H1 e s hk⟩
/-- a turn whose target is a pair of names: what the two hold -/
theorem tn_pair {α β : Type} {K : PySem.W.Frag} {S : Hp → V → α → Prop} {S' : Hp → V → β → Prop} {A B : Hp → V → Prop} {te : TE} {σw : L2.St} {i j : Nat} {out : α → β} {x : α} {H : Hp} (hp : ∀ v H1, Ex H H1 → S H1 v x → ∃ y z, TN H1 v [y, z] ∧ A H1 y ∧ B H1 z) (hw : ∀ y z, wipe ((σw.set i (some y)).set j (some z)) [i, j] = σw)
    (he : ∀ y z H1, Ex H H1 → A H1 y → B H1 z → ER te ((σw.set i (some y)).set j (some z)) H1 (fun H' w => S' H' w (out x))) :
    Tn S S' (gTup K 2 (gCons (gName i) (gCons (gName j) gNil))) tYes te σw [i, j] (fun _ => true) out x H := fun v H1 e s => by
  obtain ⟨y, z, ⟨a, h1, h2⟩, ha, hb⟩ := hp v H1 e s
  exact ⟨(σw.set i (some y)).set j (some z), fun Q q => ⟨a, [y, z], h1, st_of h2, rfl, y, [z], rfl, z, [], rfl, rfl, q⟩, hw y z, fun H2 _ Q q => q H2 (Ex.refl H2), fun _ => he y z H1 e ha hb⟩
theorem fil_true {α : Type} (xs : List α) : xs.filter (fun _ => true) = xs := by
  rw [List.filter_eq_self]
  exact fun _ _ => rfl
theorem all_map_true {α : Type} {xs : List α} {g : α → Bool} (h : ∀ x ∈ xs, g x = true) : (xs.map g).all id = true := by
  rw [List.all_map]
  rw [List.all_eq_true]
  exact h
section
variable {P : Program} {w : World} {K : PySem.W.Frag} {mg : Str → Option Value} {base : Heap} {f : Addr} {fd : FuncData}
/-! ### numbers -/
def spIsInt : Sp := mkSp (α := Int) (fun a _ vs => vs = [.int a]) (fun _ _ v => v = .bl true)
theorem sc_is_integer : FnScope ["value"] ["value"] (defScope s_is_integer) := ⟨rfl, rfl, rfl, by decide +kernel, rfl, by decide +kernel, by decide +kernel⟩
theorem ok_is_integer (F : FnP K "is_integer" s_is_integer f fd) (N : Nm mg) : FnOk P w K mg base CX0 1 f fd ["value"] spIsInt :=
  F.ok sc_is_integer (len_mk fun _ _ _ h => by rw [h]; rfl) (fun cdv A outer s H vs Q E hr h => ⟨_, PSs.nox (pss_one (ps_ret (pe_and (pe_callB call_isi (by rfl) N.isinstance (by decide +kernel) (pa_cons (pv 0) (pa_cons (pe_bltn (v := .ty "int") (u := .type "int") (by rfl) N.int (by decide +kernel) rfl) pa_nil))) (pe_one (pe_not (pe_callB call_isi (by rfl) N.isinstance (by decide +kernel) (pa_cons (pv 0) (pa_cons (pe_bltn (v := .ty "bool") (u := .type "bool") (by rfl) N.bool (by decide +kernel) rfl) pa_nil)))))))), by
    obtain ⟨a, rfl, k⟩ := h
    exact s_ret (ev_is (ev_andV (ev_cb (ea2 (ev_var rfl) ev_c) (rc_isi (n := "int") (m := "int") (b := true) (fun _ _ => .base (.int a)) (by decide +kernel))) fun _ => ev_notV (ev_cb (ea2 (ev_var rfl) ev_c) (rc_isi (n := "bool") (m := "int") (b := false) (fun _ _ => .base (.int a)) (by decide +kernel)))) rfl) fun H1 e => k _ _ e rfl⟩)
def spIsBtw : Sp := mkSp (α := Int × Int × Int) (fun a _ vs => vs = [.int a.1, .int a.2.1, .int a.2.2] ∧ a.2.1 ≤ a.1 ∧ a.1 ≤ a.2.2) (fun _ _ v => v = .bl true)
theorem sc_is_between : FnScope ["value", "least", "most"] ["value", "least", "most"] (defScope s_is_between) := ⟨rfl, rfl, rfl, by decide +kernel, rfl, by decide +kernel, by decide +kernel⟩
theorem ok_is_between (F : FnP K "is_between" s_is_between f fd) {fI : Addr} {fdI : FuncData} (u_is_integer : Use P w K mg base "is_integer" 1 ["value"] spIsInt fI fdI) : FnOk P w K mg base CX0 2 f fd ["value", "least", "most"] spIsBtw :=
  F.ok sc_is_between (len_mk fun _ _ _ h => by rw [h.1]; rfl) (fun cdv A outer s H vs Q E hr h => ⟨_, PSs.nox (pss_one (ps_ret (pe_and (pe_call u_is_integer.ok (hr.mono (by decide)) rfl u_is_integer.g u_is_integer.kp u_is_integer.b .nil pass0 (pa_cons (pv 0) pa_nil)) (pe_one (pe_chain op_le op_le (pv 1) (pv 0) (pv 2)))))), by
    obtain ⟨⟨a, b, c⟩, ⟨rfl, h1, h2⟩, k⟩ := h
    exact s_ret (ev_is (ev_andV (b := true) (ev_er ((er_use a (ea1 (ev_var rfl)) fun _ _ => rfl).imp fun _ _ _ h => h)) fun _ => ev_is (ev_chain (ev_var rfl) (ev_var rfl) rv_I0 fun _ => ⟨ev_var rfl, rv_I0⟩) (by
      have h1 : b ≤ a := h1
      have h2 : a ≤ c := h2
      simp [h1, h2])) rfl) fun H1 e => k _ _ e rfl⟩)
def spAreInts : Sp := mkSp (α := Pt) (fun a H vs => ∃ v, vs = [v, .int 2] ∧ T2 H v a) (fun _ _ v => v = .bl true)
theorem allT (n : Nat) : (List.replicate n true).all id = true := by simp
theorem sc_are_integers : FnScope ["value", "many", "item"] ["value", "many"] (defScope s_are_integers) := ⟨rfl, rfl, rfl, by decide +kernel, rfl, by decide +kernel, by decide +kernel⟩
theorem ok_are_integers (F : FnP K "are_integers" s_are_integers f fd) (N : Nm mg) {fI : Addr} {fdI : FuncData} (u_is_integer : Use P w K mg base "is_integer" 1 ["value"] spIsInt fI fdI) : FnOk P w K mg base CX0 2 f fd ["value", "many"] spAreInts :=
  F.ok sc_are_integers (len_mk fun _ _ _ ⟨_, h, _⟩ => by rw [h]; rfl) (fun cdv A outer s H vs Q E hr h => ⟨_, PSs.nox (pss_one (ps_ret (pe_and (pe_callB call_isi (by rfl) N.isinstance (by decide +kernel) (pa_cons (pv 0) (pa_cons (pe_bltn (v := .ty "tuple") (u := .type "tuple") (by rfl) N.tuple (by decide +kernel) rfl) pa_nil))) (pe_and (pe_cmpR op_eq (pe_callB call_len_seq (by rfl) N.len (by decide +kernel) (pa_cons (pv 0) pa_nil)) (pv 1) (nomark _)) (pe_one (pe_callB (cr_all rfl) (by rfl) N.all (by decide +kernel) (pa_cons (pe_lc (own := [("item", 2)]) (g := gName 2) rfl sc_are_integers.nd (pi_tup (pv 0)) (blkOk_by (own := [("item", 2)]) (N := ["value", "many", "item"]) (sc := defScope s_are_integers) (by decide +kernel)) (fun _ _ _ _ _ => (pg_name (i := 2) sc_are_integers.nd rfl (Or.inl rfl))) (fun _ _ _ _ _ => pts_nil) (fun _ _ _ _ _ => (pe_call u_is_integer.ok (hr.mono (by decide)) rfl u_is_integer.g u_is_integer.kp u_is_integer.b .nil pass0 (pa_cons (pv 2) pa_nil)))) pa_nil))))))), by
    obtain ⟨p, ⟨v, rfl, t⟩, k⟩ := h
    obtain ⟨a, rfl, ht⟩ := t
    refine s_ret (ev_is (ev_andV (ev_cb (ea2 (ev_var rfl) ev_c) (rc_isi (n := "tuple") (m := "tuple") (b := true) (fun H1 e => .base (.tup (e _ _ ht))) (by decide +kernel))) fun _ => ev_andV (ev_is (ev_op (ev_lenT (ev_var rfl) ⟨a, rfl, ht⟩) (ev_var rfl) (rv_eq rfl)) (w := .bl true) rfl) fun _ => ev_all (bs := [true, true]) ?_) rfl) fun H1 e => k _ _ e rfl
    refine (er_lcT (S := IsI) (S' := IsB) (xs := [p.1, p.2]) (fun _ => true) (fun _ => true) mo_int mt_bl (er_var rfl (fun H H' v e ⟨vs, h1, h2⟩ => ⟨vs, mo_tn _ _ _ _ e h1, h2⟩) ⟨_, ⟨a, rfl, ht⟩, All2.cons rfl (All2.one rfl)⟩) (by simp) fun x H1 hx e => tn_name (fun _ => rfl) fun v H2 e2 s => ?_)
    cases s
    exact (er_use x (ea1 (ev_var rfl)) fun _ _ => rfl)⟩)
def spIsPlace : Sp := mkSp (α := Pt) (fun a H vs => ∃ v, vs = [v] ∧ T2 H v a ∧ a.1.natAbs ≤ 10 ^ 30 ∧ a.2.natAbs ≤ 10 ^ 30) (fun _ _ v => v = .bl true)
theorem sc_is_place : FnScope ["value", "item"] ["value"] (defScope s_is_place) := ⟨rfl, rfl, rfl, by decide +kernel, rfl, by decide +kernel, by decide +kernel⟩
theorem ok_is_place (F : FnP K "is_place" s_is_place f fd) (N : Nm mg) {fI : Addr} {fdI : FuncData} (u_are_integers : Use P w K mg base "are_integers" 2 ["value", "many"] spAreInts fI fdI) : FnOk P w K mg base CX0 3 f fd ["value"] spIsPlace :=
  F.ok sc_is_place (len_mk fun _ _ _ ⟨_, h, _⟩ => by rw [h]; rfl) (fun cdv A outer s H vs Q E hr h => ⟨_, PSs.nox (pss_one (ps_ret (pe_and (pe_call u_are_integers.ok (hr.mono (by decide)) rfl u_are_integers.g u_are_integers.kp u_are_integers.b .nil pass0 (pa_cons (pv 0) (pa_cons pe_int pa_nil))) (pe_one (pe_callB (cr_all rfl) (by rfl) N.all (by decide +kernel) (pa_cons (pe_lc (own := [("item", 1)]) (g := gName 1) rfl sc_is_place.nd (pi_tup (pv 0)) (blkOk_by (own := [("item", 1)]) (N := ["value", "item"]) (sc := defScope s_is_place) (by decide +kernel)) (fun _ _ _ _ _ => (pg_name (i := 1) sc_is_place.nd rfl (Or.inl rfl))) (fun _ _ _ _ _ => pts_nil) (fun _ _ _ _ _ => (pe_cmpR op_le (pe_callB call_abs (by rfl) N.abs (by decide +kernel) (pa_cons (pv 1) pa_nil)) (pe_num rfl N.MOST_PLACE) (nomark _)))) pa_nil)))))), by
    obtain ⟨p, ⟨v, rfl, t, l1, l2⟩, k⟩ := h
    have t0 := t
    obtain ⟨a, rfl, ht⟩ := t
    refine s_ret (ev_is (ev_andV (b := true) (ev_er ((er_use p (ea2 (ev_var rfl) ev_c) fun H1 e => ⟨_, rfl, mo_t2 _ _ _ _ e t0⟩).imp fun _ _ _ h => h)) fun _ => ev_all (bs := [true, true]) ?_) rfl) fun H1 e => k _ _ e rfl
    refine ((er_lcT (S := IsI) (S' := IsB) (xs := [p.1, p.2]) (fun _ => true) (fun _ => true) mo_int mt_bl (er_var rfl (fun H H' v e ⟨vs, h1, h2⟩ => ⟨vs, mo_tn _ _ _ _ e h1, h2⟩) ⟨_, ⟨a, rfl, ht⟩, All2.cons rfl (All2.one rfl)⟩) (by simp) fun x H1 hx e => tn_name (fun _ => rfl) fun v H2 e2 s => ?_))
    cases s
    have hl : (x.natAbs : Int) ≤ 10 ^ 30 := by
      simp only [List.mem_cons, List.not_mem_nil, or_false] at hx
      have e30 : (10 : Int) ^ 30 = ((10 ^ 30 : Nat) : Int) := by decide +kernel
      rw [e30]
      rcases hx with rfl | rfl <;> omega
    exact er_ev (v := .bl true) (ev_is (ev_op (ev_cb (ea1 (ev_var rfl)) rc_abs) ev_c rv_I0) (by simp only [decide_eq_true hl])) fun _ _ => rfl⟩)
end
end GF
set_option Elab.async false
set_option linter.all false
set_option maxRecDepth 100000
set_option maxHeartbeats 4000000
set_option exponentiation.threshold 100000
namespace GF
open PySem PySem.Spec PyProof.Rows L2 Evl
theorem cut_from (vs : List V) (k : Nat) : cutV vs (some (k : Int)) none = vs.drop k := by
  unfold cutV
  rw [HT.sIx_nat, HT.sIx_none]
  by_cases h : k ≤ vs.length
  · rw [Nat.min_eq_left h, List.take_of_length_le (by rw [List.length_drop]; omega)]
  · rw [Nat.min_eq_right (by omega), List.drop_eq_nil_of_le (Nat.le_refl _), List.drop_eq_nil_of_le (by omega), List.take_nil]
theorem cut_to (vs : List V) (k : Nat) : cutV vs none (some (k : Int)) = vs.take k := by
  unfold cutV
  rw [HT.sIx_nat, HT.sIx_none, List.drop_zero, Nat.sub_zero]
  by_cases h : k ≤ vs.length
  · rw [Nat.min_eq_left h]
  · rw [Nat.min_eq_right (by omega), List.take_of_length_le (Nat.le_refl _), List.take_of_length_le (by omega)]
theorem cut_last (vs : List V) : cutV vs none (some (-1)) = vs.dropLast := by
  unfold cutV
  have e : HT.sIx vs.length vs.length (some (-1)) = vs.length - 1 := by
    unfold HT.sIx
    show (if (-1 : Int) < 0 then ((-1 : Int) + (vs.length : Int)).toNat else _) = _
    rw [if_pos (by decide)]
    omega
  rw [HT.sIx_none, List.drop_zero, Nat.sub_zero, List.dropLast_eq_take, e]
theorem All2.drop {α : Type} {S : V → α → Prop} {vs : List V} {xs : List α} (h : All2 S vs xs) (k : Nat) : All2 S (vs.drop k) (xs.drop k) := ⟨by rw [List.length_drop, List.length_drop, h.1], fun i v x e1 e2 => h.2 (k + i) v x (by rw [List.getElem?_drop] at e1; exact e1) (by rw [List.getElem?_drop] at e2; exact e2)⟩
theorem All2.take {α : Type} {S : V → α → Prop} {vs : List V} {xs : List α} (h : All2 S vs xs) (k : Nat) : All2 S (vs.take k) (xs.take k) := ⟨by rw [List.length_take, List.length_take, h.1], fun i v x e1 e2 => by
  have hi : i < (vs.take k).length := (List.getElem?_eq_some_iff.mp e1).1
  rw [List.length_take] at hi
  rw [List.getElem?_take, if_pos (by omega)] at e1 e2
  exact h.2 i v x e1 e2⟩
theorem All2.dropLast {α : Type} {S : V → α → Prop} {vs : List V} {xs : List α} (h : All2 S vs xs) : All2 S vs.dropLast xs.dropLast := by
  rw [List.dropLast_eq_take, List.dropLast_eq_take, h.1]
  exact h.take _
theorem er_from {α : Type} {K : PySem.W.Frag} {S : Hp → V → α → Prop} {te : TE} {σ : L2.St} {H : Hp} {v : V} {xs : List α} {k : Int} (n : Nat) (hk : k = (n : Int)) (h : Ev te σ H v) (hl : LR S H v xs) (mS : Mo2 S) : ER (tSl (rSlL K) te (tPart (tC (.int k))) tNoPart) σ H (fun H' v => LR S H' v (xs.drop n)) := by
  subst hk
  exact er_sl h hl mS (eo_some ev_c) eo_none fun vs a => by rw [cut_from]; exact a.drop n
theorem er_to {α : Type} {K : PySem.W.Frag} {S : Hp → V → α → Prop} {te : TE} {σ : L2.St} {H : Hp} {v : V} {xs : List α} {k : Int} (n : Nat) (hk : k = (n : Int)) (h : Ev te σ H v) (hl : LR S H v xs) (mS : Mo2 S) : ER (tSl (rSlL K) te tNoPart (tPart (tC (.int k)))) σ H (fun H' v => LR S H' v (xs.take n)) := by
  subst hk
  exact er_sl h hl mS eo_none (eo_some ev_c) fun vs a => by rw [cut_to]; exact a.take n
/-- a comprehension over zip -/
theorem er_lcZ {α α2 β : Type} {K : PySem.W.Frag} {σ : L2.St} {H : Hp} {te t1 t2 : TE} {i j : Nat} {S : Hp → V → α → Prop} {S2 : Hp → V → α2 → Prop} {S' : Hp → V → β → Prop} {xs : List α} {ys : List α2} (out : α × α2 → β) (mS : Mo2 S) (mS2 : Mo2 S2) (mS' : MoT S') (h1 : ER t1 σ H (fun H' v => LR S H' v xs)) (h2 : ER t2 σ H (fun H' v => LR S2 H' v ys)) (hz : xs.length ≤ 40000)
    (hw : ∀ y z, wipe (((wipe σ [i, j]).set i (some y)).set j (some z)) [i, j] = wipe σ [i, j])
    (turn : ∀ x y vx vy H1, (x, y) ∈ xs.zip ys → Ex H H1 → S H1 vx x → S2 H1 vy y → ER te (((wipe σ [i, j]).set i (some vx)).set j (some vy)) H1 (fun H' w => S' H' w (out (x, y)))) : ER (tLc (iZip K (tCons t1 (tCons t2 tNil))) (gTup K 2 (gCons (gName i) (gCons (gName j) gNil))) tYes te [i, j]) σ H (fun H' v => LR S' H' v ((xs.zip ys).map out)) := fun H0 e Q q =>
  h1 H0 e _ fun v H1 e1 ⟨a, vs, ea, a2, a3⟩ => h2 H1 (e.trans e1) _ fun u H2 e2 ⟨b, us, eb, b2, b3⟩ => by
  have a2' := e2 _ _ a2
  have a3' := a3.mono fun v x => mS _ _ v x e2
  refine ⟨a, b, vs, us, by rw [ea, eb], sq_of a2', sq_of b2, fun Dl hD => ?_⟩
  refine lc_it (walk_zip (n := (xs.zip ys).length) (by rw [List.length_zip, a3.1, b3.1])) (fun i H' => CwR S' H2 Dl (((xs.zip ys).take i).map out) H') ⟨hD, Ex.new hD, [], upd_same, All2.nil⟩ (fun i H' _ p => ⟨sq_of (p.2.1 a _ a2'), sq_of (p.2.1 b _ b2)⟩) (fun i v H' H'' hi p y => ?_) (fun H' p => ?_)
  · obtain ⟨T, vx, vy, rfl, hT, rfl, hx, hy⟩ := y
    obtain ⟨x, hx1, sx⟩ := a3'.atV hx
    obtain ⟨y, hy1, sy⟩ := b3.atV hy
    have hxy : (xs.zip ys)[i]? = some (x, y) := by rw [List.getElem?_zip_eq_some]; exact ⟨hx1, hy1⟩
    have eT : Ex H' (upd H' T (.tup [vx, vy])) := Ex.new hT
    have p2 : CwR S' H2 Dl (((xs.zip ys).take i).map out) (upd H' T (.tup [vx, vy])) := by
      obtain ⟨p1, p2, acc, p3, p4⟩ := p
      exact ⟨p1, p2.trans eT, acc, eT _ _ p3, p4.mono fun v x h => mS'.mo _ _ _ _ eT h⟩
    refine ⟨T, [vx, vy], rfl, st_of upd_same, rfl, vx, [vy], rfl, vy, [], rfl, rfl, hw _ _, ?_⟩
    have et : ((xs.zip ys).take (i + 1)).map out = ((xs.zip ys).take i).map out ++ (if (fun _ : α × α2 => true) (x, y) = true then [out (x, y)] else []) := by
      rw [List.take_succ, hxy, List.map_append]
      rfl
    rw [et]
    refine cwR_turn (keep := fun _ => true) mS' p2 ?_ (fun H3 _ Q q => q H3 (Ex.refl H3)) (fun _ => turn x y vx vy _ (List.mem_of_getElem? hxy) (((e.trans e1).trans e2).trans p2.2.1) (mS _ _ _ _ p2.2.1 sx) (mS2 _ _ _ _ p2.2.1 sy))
    rw [List.length_map, List.length_take, List.length_zip]
    omega
  · obtain ⟨p1, p2, acc, p3, p4⟩ := p
    refine q _ _ ((e1.trans e2).trans p2) ⟨Dl, acc, rfl, p3, ?_⟩
    rw [List.take_length] at p4
    exact p4
/-! ### data -/
theorem dp_t2 {K : PySem.W.Frag} {H : Hp} {v : V} {p : Pt} (t : T2 H v p) : Dp K H v (PD p) := by
  obtain ⟨a, rfl, h⟩ := t
  exact .tup (st_of h) (.cons (.int _) (.cons (.int _) .nil))
theorem dp_all {K : PySem.W.Frag} {H : Hp} : ∀ {vs : List V} {ps : List Pt}, All2 (T2 H) vs ps → DpAll K H vs (ps.map PD)
  | vs, [], h => by
    rw [All2.nil_inv h]
    exact .nil
  | vs, p :: ps, h => by
    obtain ⟨v, ws, rfl, h1, h2⟩ := h.uncons
    exact .cons (dp_t2 h1) (dp_all h2)
theorem pd_shaped (p : Pt) : SeqAt.shaped (PD p) = true := rfl
section
variable {P : Program} {w : World} {K : PySem.W.Frag} {mg : Str → Option Value} {base : Heap} {f : Addr} {fd : FuncData}
def BdP (n : Nat) (p : Pt) : Prop := Bd n p.1 ∧ Bd n p.2
theorem bd_place {p : Pt} (h : p.1.natAbs ≤ 10 ^ 30 ∧ p.2.natAbs ≤ 10 ^ 30) : BdP 100 p := by
  have e : 10 ^ 30 < 2 ^ 100 := by decide +kernel
  exact ⟨Nat.lt_of_le_of_lt h.1 e, Nat.lt_of_le_of_lt h.2 e⟩
theorem mem_at {ps : List P2} {i : Nat} (h : i < ps.length) : at_ ps i ∈ ps := List.mem_of_getElem? (at_get h)
/-- turn_at of three known points -/
theorem ev_turn {te1 te2 te3 : TE} {σ : L2.St} {H : Hp} {E : XK} {x y z : V} {p q r : Pt} {n : Nat} (hn : n ≤ 3000) (h1 : Ev te1 σ H x) (h2 : Ev te2 σ H y) (h3 : Ev te3 σ H z) (t1 : T2 H x p) (t2 : T2 H y q) (t3 : T2 H z r) (b1 : BdP n p) (b2 : BdP n q) (b3 : BdP n r) : Ev (tCall spTurn [] E (tCons te1 (tCons te2 (tCons te3 tNil)))) σ H (.int (turnM p q r)) :=
  ev_er ((er_use (p, q, r) (ea3 h1 h2 h3) fun H1 e => ⟨x, y, z, rfl, mo_t2 _ _ _ _ e t1, mo_t2 _ _ _ _ e t2, mo_t2 _ _ _ _ e t3, ⟨b1.1.mono hn, b1.2.mono hn⟩, ⟨b2.1.mono hn, b2.2.mono hn⟩, b3.1.mono hn, b3.2.mono hn⟩).imp fun _ _ _ h => h)
/-- min(corners) != corners[0], the first the least -/
theorem ev_minNe {te ti : TE} {σ : L2.St} {H : Hp} {v u : V} {p : Pt} {ps : List Pt} (h : Ev te σ H v) (hl : LR T2 H v (p :: ps)) (hm : ∀ q ∈ p :: ps, ¬ ptlt q p) (hi : Ev ti σ H u) (tu : T2 H u p) : Ev (tOp (rNeD K) (tCB (rMinFirst K) (tCons te tNil)) ti) σ H (.bl false) := by
  obtain ⟨a, vs, rfl, l2, l3⟩ := hl
  obtain ⟨x, xs, rfl, s1, s2⟩ := l3.uncons
  refine ev_op (x := x) (ev_cb (ea1 h) fun H1 e Q q => ⟨a, x, xs, p, ps, rfl, sq_of (e _ _ l2), dp_all ((All2.cons s1 s2).mono fun v y => mo_t2 _ _ _ _ e), hm, q H1 (Ex.refl H1)⟩) hi fun H1 e Q q => ⟨PD p, PD p, dp_t2 (mo_t2 _ _ _ _ e s1), dp_t2 (mo_t2 _ _ _ _ e tu), rfl, rfl, ?_⟩
  rw [SeqAt.eqv_refl (PD p) rfl]
  exact q H1 (Ex.refl H1)
def spAround : Sp := mkSp (α := List Pt) (fun ps H vs => ∃ v, vs = [v] ∧ LR T2 H v ps ∧ 3 ≤ ps.length ∧ ps.length ≤ 10 ∧ (∀ p ∈ ps, p.1.natAbs ≤ 10 ^ 30 ∧ p.2.natAbs ≤ 10 ^ 30) ∧ Around ps) (fun _ _ v => v = .bl true)
theorem sc_are_around : FnScope ["corners", "many", "place", "one", "two", "three"] ["corners"] (defScope s_are_around) := ⟨rfl, rfl, rfl, by decide +kernel, rfl, by decide +kernel, by decide +kernel⟩
theorem ok_are_around (F : FnP K "are_around" s_are_around f fd) (N : Nm mg) {fI : Addr} {fdI : FuncData} (u_turn_at : Use P w K mg base "turn_at" 1 ["one", "two", "three"] spTurn fI fdI) : FnOk P w K mg base CX0 2 f fd ["corners"] spAround :=
  F.ok sc_are_around (len_mk fun _ _ _ ⟨_, h, _⟩ => by rw [h]; rfl) (fun cdv A outer s H vs Q E hr h => ⟨_, PSs.nox (pss_cons (ps_set (i := 1) sc_are_around.nd rfl (Or.inl rfl) (pe_callB call_len_seq (by rfl) N.len (by decide +kernel) (pa_cons (pv 0) pa_nil))) (pss_cons (ps_if (pt_cmpR (op_neD hr.units) (pe_callB (cr_minFirst rfl hr.units) (by rfl) N.min (by decide +kernel) (pa_cons (pv 0) pa_nil)) (pe_ix ix_seq (pv 0) pe_int (fun _ _ => rfl)) (by rfl)) (pss_one (ps_ret pe_bl)) pss_nil) (pss_cons (ps_for PassesOwn.never rfl (pi_range1 rfl N.range (pa_cons (pv 1) pa_nil)) (pg_name (i := 2) sc_are_around.nd rfl (Or.inl rfl)) (pss_cons (ps_par3 (i := 3) (j := 4) (l := 5) rfl sc_are_around.nd rfl rfl rfl (by decide) (by decide) (by decide) rfl rfl rfl (pa_cons (pe_ix ix_seq (pv 0) (pv 2) (fun _ _ => rfl)) (pa_cons (pe_ix ix_seq (pv 0) (pe_op op_modN (pe_op op_add (pv 2) pe_int) (pv 1)) (fun _ _ => rfl)) (pa_cons (pe_ix ix_seq (pv 0) (pe_op op_modN (pe_op op_add (pv 2) pe_int) (pv 1)) (fun _ _ => rfl)) pa_nil))) (by rfl)) (pss_one (ps_if (pt_cmpR op_le (pe_call u_turn_at.ok (hr.mono (by decide)) rfl u_turn_at.g u_turn_at.kp u_turn_at.b .nil pass0 (pa_cons (pv 3) (pa_cons (pv 4) (pa_cons (pv 5) pa_nil)))) pe_int (nomark _)) (pss_one (ps_ret pe_bl)) pss_nil)))) (pss_one (ps_ret (pe_callB (cr_all rfl) (by rfl) N.all (by decide +kernel) (pa_cons (pe_lc (own := [("one", 3), ("two", 4)]) rfl sc_are_around.nd (pi_zip rfl N.zip (pa_cons (pe_slice sl_list (pv 0) (po_some pe_int) po_none) (pa_cons (pe_slice sl_list (pv 0) (po_some pe_int) po_none) pa_nil))) (blkOk_by (own := [("one", 3), ("two", 4)]) (N := ["corners", "many", "place", "one", "two", "three"]) (sc := defScope s_are_around) (by decide +kernel)) (fun _ _ _ _ _ => (pg_tupK (K := K) (n := 2) rfl rfl (pgs_cons (pg_name (i := 3) sc_are_around.nd rfl (Or.inl rfl)) (pgs_cons (pg_name (i := 4) sc_are_around.nd rfl (Or.inl rfl)) pgs_nil)))) (fun _ _ _ _ _ => pts_nil) (fun _ _ _ _ _ => (pe_cmpR op_gt (pe_call u_turn_at.ok (hr.mono (by decide)) rfl u_turn_at.g u_turn_at.kp u_turn_at.b .nil pass0 (pa_cons (pe_ix (ix_seqK (K := K) rfl) (pv 0) pe_int (fun _ _ => rfl)) (pa_cons (pv 3) (pa_cons (pv 4) pa_nil)))) pe_int (nomark _)))) pa_nil))))))), by
    obtain ⟨ps, ⟨v, rfl, hl, h3, h10, hb, hmin, hturn, hfan⟩, k⟩ := h
    have hbd : ∀ i, i < ps.length → BdP 100 (at_ ps i) := fun i hi => bd_place (hb _ (mem_at hi))
    refine q_asg (ev_lenL (ev_var rfl) hl) fun H1 e1 => ?_
    have hl1 := mo_lr mo_t2 _ _ _ _ e1 hl
    refine q_when (b := false) ?_ (fun z => by cases z) (fun _ H2 e2 => ?_)
    · obtain ⟨w0, w1, w2⟩ := er_ixL (K := K) (i := 0) (ev_var (σ := (L2.start ["corners", "many", "place", "one", "two", "three"] [v]).set 1 (some (.int ps.length))) (i := 0) rfl) hl1 mo_t2 ev_c (at_get (by omega))
      obtain ⟨p, r, rfl⟩ : ∃ p r, ps = p :: r := by cases ps with | nil => simp at h3 | cons p r => exact ⟨p, r, rfl⟩
      exact et_test (ev_minNe (ev_var rfl) hl1 hmin w1 w2)
    · have hl2 := mo_lr mo_t2 _ _ _ _ e2 hl1
      refine q_forR1 (n := ps.length) (ea1 (ev_var rfl)) (by omega) (fun i σ H' => i ≤ ps.length ∧ Ex H2 H' ∧ ∃ x2 x3 x4 x5, σ = [some v, some (.int ps.length), x2, x3, x4, x5]) (fun H3 e3 => ⟨Nat.zero_le _, e3, _, _, _, _, rfl⟩) ?_ ?_
      · rintro i σ H3 hi ⟨hi2, e3, x2, x3, x4, x5, rfl⟩
        have hi : i < ps.length := by omega
        have hl3 := mo_lr mo_t2 _ _ _ _ e3 hl2
        have em : ∀ c : Nat, ((i : Int) + (c : Int)).fmod (ps.length : Int) = (((i + c) % ps.length : Nat) : Int) := fun c => by
          rw [Int.fmod_eq_emod_of_nonneg _ (by omega)]
          rfl
        have h1l : (i + 1) % ps.length < ps.length := Nat.mod_lt _ (by omega)
        have h2l : (i + 2) % ps.length < ps.length := Nat.mod_lt _ (by omega)
        have hne : (ps.length : Int) ≠ 0 := by omega
        let σ3 : L2.St := [some v, some (.int ps.length), some (.int (i : Int)), x3, x4, x5]
        have vi : ∀ c : Nat, Ev (tOp (rI (fun _ j => j ≠ 0) fun i j => .int (i.fmod j)) (tOp (rI0 fun i j => .int (i + j)) (tVar 2) (tC (.int (c : Int)))) (tVar 1)) σ3 H3 (.int (((i + c) % ps.length : Nat) : Int)) := fun c => by
          rw [← em c]
          exact ev_op (ev_op (ev_var rfl) ev_c rv_I0) (ev_var rfl) (rv_I hne)
        obtain ⟨w0, a0, b0⟩ := er_ixL (K := K) (ev_var (σ := σ3) (i := 0) rfl) hl3 mo_t2 (ev_var (i := 2) rfl) (at_get hi)
        obtain ⟨w1, a1, b1⟩ := er_ixL (K := K) (ev_var (σ := σ3) (i := 0) rfl) hl3 mo_t2 (vi 1) (at_get h1l)
        obtain ⟨w2, a2, b2⟩ := er_ixL (K := K) (ev_var (σ := σ3) (i := 0) rfl) hl3 mo_t2 (vi 2) (at_get h2l)
        refine q_par3V (ea3 a0 a1 a2) fun H4 e4 => ?_
        have ht := hturn i hi
        refine s_when (b := false) (et_is (et_test (ev_op (ev_turn (n := 100) (by decide) (ev_var rfl) (ev_var rfl) (ev_var rfl) (mo_t2 _ _ _ _ e4 b0) (mo_t2 _ _ _ _ e4 b1) (mo_t2 _ _ _ _ e4 b2) (hbd _ hi) (hbd _ h1l) (hbd _ h2l)) ev_c rv_I0)) (decide_eq_false (by omega))) (fun z => by cases z) (fun _ H5 e5 => ⟨hi, (e3.trans e4).trans e5, _, _, _, _, rfl⟩)
      · rintro σ H3 ⟨_, e3, x2, x3, x4, x5, rfl⟩
        have hl3 := mo_lr mo_t2 _ _ _ _ e3 hl2
        obtain ⟨w0, a0, b0⟩ := er_ixL (K := K) (i := 0) (ev_var (σ := [some v, some (.int ps.length), x2, x3, x4, x5]) (i := 0) rfl) hl3 mo_t2 ev_c (at_get (by omega))
        refine s_ret (ev_is (ev_all (bs := ((ps.drop 1).zip (ps.drop 2)).map fun _ => true) ?_) (congrArg V.bl (all_map_true fun _ _ => rfl))) fun H4 e4 => k _ _ (((e1.trans e2).trans e3).trans e4) rfl
        refine er_lcZ (S := T2) (S2 := T2) (S' := IsB) (fun _ => true) mo_t2 mo_t2 mt_bl (er_from 1 rfl (ev_var rfl) hl3 mo_t2) (er_from 2 rfl (ev_var rfl) hl3 mo_t2) (by rw [List.length_drop]; omega) (fun _ _ => rfl) fun x y vx vy H4 hxy e4 tx ty => ?_
        obtain ⟨i, hi, hx⟩ := List.mem_iff_getElem.mp hxy
        have hi0 := hi
        rw [List.length_zip, List.length_drop, List.length_drop] at hi
        have hx2 : ((ps.drop 1).zip (ps.drop 2))[i]? = some (x, y) := by rw [List.getElem?_eq_getElem hi0, hx]
        rw [List.getElem?_zip_eq_some, List.getElem?_drop, List.getElem?_drop, at_get (by omega), at_get (by omega)] at hx2
        have ex : at_ ps (1 + i) = x := Option.some.inj hx2.1
        have ey : at_ ps (2 + i) = y := Option.some.inj hx2.2
        have hf := hfan (1 + i) (by omega) (by omega)
        rw [show 1 + i + 1 = 2 + i by omega, ex, ey] at hf
        obtain ⟨w3, a3, b3⟩ := er_ixL (K := K) (i := 0) (ev_var (σ := [some v, some (.int ps.length), x2, some vx, some vy, x5]) (i := 0) rfl) (mo_lr mo_t2 _ _ _ _ e4 hl3) mo_t2 ev_c (at_get (by omega))
        have hbx := hbd (1 + i) (by omega)
        have hby := hbd (2 + i) (by omega)
        rw [ex] at hbx
        rw [ey] at hby
        exact er_ev (ev_op (ev_turn (n := 100) (by decide) a3 (ev_var rfl) (ev_var rfl) b3 tx ty (hbd 0 (by omega)) hbx hby) ev_c rv_I0) fun _ _ => congrArg V.bl (decide_eq_true hf)⟩)
end
end GF
set_option Elab.async false
set_option linter.all false
set_option maxRecDepth 100000
set_option maxHeartbeats 4000000
set_option exponentiation.threshold 100000
namespace GF
open PySem PySem.Spec PyProof.Rows L2 Evl
section
variable {P : Program} {w : World} {K : PySem.W.Frag} {mg : Str → Option Value} {base : Heap} {f : Addr} {fd : FuncData}
theorem ev_ltT {ta tb : TE} {σ : L2.St} {H : Hp} {x y : V} {p q : Pt} (h : Ev ta σ H x) (h2 : Ev tb σ H y) (t1 : T2 H x p) (t2 : T2 H y q) (l : ptlt p q) : Ev (tOp (rLtT K) ta tb) σ H (.bl true) := by
  obtain ⟨a, rfl, ha⟩ := t1
  obtain ⟨b, rfl, hb⟩ := t2
  refine ev_op h h2 fun H1 e Q k => ⟨a, b, [p.1, p.2], [q.1, q.2], rfl, rfl, st_of (e _ _ ha), st_of (e _ _ hb), ?_⟩
  have e : HT.lexLt [p.1, p.2] [q.1, q.2] = true := by
    rw [HT.lexLt_cons]
    rcases l with l | ⟨l1, l2⟩
    · rw [if_neg (by omega)]
      exact decide_eq_true l
    · rw [if_pos l1, HT.lexLt_cons, if_neg (by omega)]
      exact decide_eq_true l2
  rw [e]
  exact k H1 (Ex.refl H1)
theorem ty_lst {α : Type} {S : Hp → V → α → Prop} {H : Hp} {v : V} {xs : List α} (hl : LR S H v xs) (mS : Mo2 S) : ∀ H1, Ex H H1 → TyX K H1 v (.type "list") := fun H1 e => by
  obtain ⟨a, vs, rfl, h2, _⟩ := hl
  exact .base (.lst (e _ _ h2))
theorem ty_tup {H : Hp} {v : V} {xs : List V} (hl : TN H v xs) : ∀ H1, Ex H H1 → TyX K H1 v (.type "tuple") := fun H1 e => by
  obtain ⟨a, rfl, h2⟩ := hl
  exact .base (.tup (e _ _ h2))
theorem ev_isi {te : TE} {σ : L2.St} {H : Hp} {x : V} (n m : String) (b : Bool) (h : Ev te σ H x) (ht : ∀ H1, Ex H H1 → TyX K H1 x (.type m)) (hk : kitB m n = some b) : Ev (tCB (rIsi K) (tCons te (tCons (tC (.ty n)) tNil))) σ H (.bl b) := ev_cb (ea2 h ev_c) (rc_isi ht hk)
def spCorners : Sp := mkSp (α := List Pt) (fun ps H vs => ∃ v, vs = [v] ∧ LR T2 H v ps ∧ Corners ps) (fun _ _ v => v = .bl true)
theorem sc_are_corners : FnScope ["value", "item"] ["value"] (defScope s_are_corners) := ⟨rfl, rfl, rfl, by decide +kernel, rfl, by decide +kernel, by decide +kernel⟩
theorem ok_are_corners (F : FnP K "are_corners" s_are_corners f fd) (N : Nm mg) {fI fJ : Addr} {fdI fdJ : FuncData} (u_is_place : Use P w K mg base "is_place" 3 ["value"] spIsPlace fI fdI) (u_are_around : Use P w K mg base "are_around" 2 ["corners"] spAround fJ fdJ) : FnOk P w K mg base CX0 4 f fd ["value"] spCorners :=
  F.ok sc_are_corners (len_mk fun _ _ _ ⟨_, h, _⟩ => by rw [h]; rfl) (fun cdv A outer s H vs Q E hr h => ⟨_, PSs.nox (pss_cons (ps_if (PW.pt (pw_or (pt_not (pt_val (pe_callB call_isi (by rfl) N.isinstance (by decide +kernel) (pa_cons (pv 0) (pa_cons (pe_bltn (v := .ty "list") (u := .type "list") (by rfl) N.list (by decide +kernel) rfl) pa_nil))))) (pw_or (pt_not (pt_chain op_le op_le pe_int (pe_callB call_len_seq (by rfl) N.len (by decide +kernel) (pa_cons (pv 0) pa_nil)) (pe_num rfl N.MOST_AROUND))) (pw_or1 (pt_not (pt_val (pe_callB (cr_all rfl) (by rfl) N.all (by decide +kernel) (pa_cons (pe_lc (own := [("item", 1)]) (g := gName 1) rfl sc_are_corners.nd (pi_list (pv 0)) (blkOk_by (own := [("item", 1)]) (N := ["value", "item"]) (sc := defScope s_are_corners) (by decide +kernel)) (fun _ _ _ _ _ => (pg_name (i := 1) sc_are_corners.nd rfl (Or.inl rfl))) (fun _ _ _ _ _ => pts_nil) (fun _ _ _ _ _ => (pe_call u_is_place.ok (hr.mono (by decide)) rfl u_is_place.g u_is_place.kp u_is_place.b .nil pass0 (pa_cons (pv 1) pa_nil)))) pa_nil)))))))) (pss_one (ps_ret pe_bl)) pss_nil) (pss_cons (ps_if (pt_cmpR op_lt (pe_callB call_len_seq (by rfl) N.len (by decide +kernel) (pa_cons (pv 0) pa_nil)) pe_int (nomark _)) (pss_one (ps_ret (pe_or (pe_cmpR op_eq (pe_callB call_len_seq (by rfl) N.len (by decide +kernel) (pa_cons (pv 0) pa_nil)) pe_int (nomark _)) (pe_one (pe_cmpR (op_ltT hr.units0) (pe_ix ix_seq (pv 0) pe_int (fun _ _ => rfl)) (pe_ix ix_seq (pv 0) pe_int (fun _ _ => rfl)) (by rfl)))))) pss_nil) (pss_one (ps_ret (pe_call u_are_around.ok (hr.mono (by decide)) rfl u_are_around.g u_are_around.kp u_are_around.b .nil pass0 (pa_cons (pv 0) pa_nil)))))), by
    obtain ⟨ps, ⟨v, rfl, hl, c1, c10, cb, c2, c3⟩, k⟩ := h
    refine q_when (b := false) ?_ (fun z => by cases z) (fun _ H1 e1 => ?_)
    · refine et_is (et_or (et_not (et_B (ev_isi "list" "list" true (ev_var rfl) (ty_lst hl mo_t2) (by decide +kernel)))) fun _ => et_or (et_not (et_test (ev_is (ev_chain ev_c (ev_lenL (ev_var rfl) hl) rv_I0 fun _ => ⟨ev_c, rv_I0⟩) (w := .bl true) ?_))) fun _ => et_not (et_B (ev_is (ev_all (bs := ps.map fun _ => true) ?_) (congrArg V.bl (all_map_true fun _ _ => rfl))))) rfl
      · have a1 : (1 : Int) ≤ ps.length := by omega
        have a2 : (ps.length : Int) ≤ 10 := by omega
        simp [a1, a2]
      · have h := (er_lc (K := K) (S := T2) (S' := IsB) (g := gName 1) (tt := tYes) (te := tCall spIsPlace [] E0 (tCons (tVar 1) tNil)) (own := [1]) (tl := tVar 0) (σ := L2.start ["value", "item"] [v]) (H := H) (xs := ps) (fun _ => true) (fun _ => true) mo_t2 mt_bl (er_var rfl ((mo_lr mo_t2).at _) hl) (by omega) fun x H1 hx e => tn_name (fun _ => rfl) fun u H2 e2 s => (er_use x (ea1 (ev_var rfl)) fun H3 e3 => ⟨u, rfl, mo_t2 _ _ _ _ e3 s, cb x hx⟩))
        rw [fil_true] at h
        exact h
    · have hl1 := mo_lr mo_t2 _ _ _ _ e1 hl
      refine q_when (et_test (ev_op (ev_lenL (ev_var rfl) hl1) ev_c rv_I0)) (fun hlt H2 e2 => ?_) (fun hlt H2 e2 => ?_)
      · have hl2 := mo_lr mo_t2 _ _ _ _ e2 hl1
        have hlt : ps.length < 3 := by
          have := of_decide_eq_true hlt
          omega
        refine s_ret (v := .bl true) (ev_is (ev_orV (ev_op (ev_lenL (ev_var rfl) hl2) ev_c (rv_eq rfl)) (b := true) fun hne => ?_) (by simp)) fun H3 e3 => k _ _ ((e1.trans e2).trans e3) rfl
        have hne : ps.length ≠ 1 := fun z => by
          rw [z] at hne
          simp at hne
        have h2 : ps.length = 2 := by omega
        obtain ⟨w0, a0, b0⟩ := er_ixL (K := K) (i := 0) (ev_var (σ := L2.start ["value", "item"] [v]) (i := 0) rfl) hl2 mo_t2 ev_c (at_get (by omega))
        obtain ⟨w1, a1, b1⟩ := er_ixL (K := K) (i := 1) (ev_var (σ := L2.start ["value", "item"] [v]) (i := 0) rfl) hl2 mo_t2 ev_c (at_get (by omega))
        exact ev_ltT a0 a1 b0 b1 (c2 h2)
      · have hlt : ¬ ps.length < 3 := by
          have := of_decide_eq_false hlt
          omega
        exact s_retR (er_use ps (ea1 (ev_var rfl)) fun H3 e3 => ⟨v, rfl, mo_lr mo_t2 _ _ _ _ ((e1.trans e2).trans e3) hl, by omega, c10, cb, c3 (by omega)⟩) fun v H3 e3 r => k _ _ ((e1.trans e2).trans e3) r⟩)
def spSidesOf : Sp := mkSp (α := List Pt) (fun ps H vs => ∃ v, vs = [v] ∧ LR T2 H v ps) (fun ps _ v => v = .int (sidesN ps.length : Nat))
theorem sc_sides_of : FnScope ["corners"] ["corners"] (defScope s_sides_of) := ⟨rfl, rfl, rfl, by decide +kernel, rfl, by decide +kernel, by decide +kernel⟩
theorem ok_sides_of (F : FnP K "sides_of" s_sides_of f fd) (N : Nm mg) : FnOk P w K mg base CX0 1 f fd ["corners"] spSidesOf :=
  F.ok sc_sides_of (len_mk fun _ _ _ ⟨_, h, _⟩ => by rw [h]; rfl) (fun cdv A outer s H vs Q E hr h => ⟨_, PSs.nox (pss_one (ps_ret (pe_ifExp (pt_cmpR op_gt (pe_callB call_len_seq (by rfl) N.len (by decide +kernel) (pa_cons (pv 0) pa_nil)) pe_int (nomark _)) (pe_callB call_len_seq (by rfl) N.len (by decide +kernel) (pa_cons (pv 0) pa_nil)) pe_int))), by
    obtain ⟨ps, ⟨v, rfl, hl⟩, k⟩ := h
    refine s_ret (v := .int (sidesN ps.length : Nat)) (ev_if (et_test (ev_op (ev_lenL (ev_var rfl) hl) ev_c rv_I0)) (fun hb => ?_) (fun hb => ?_)) fun H1 e => k _ _ e rfl
    · have hb := of_decide_eq_true hb
      rw [sidesN, if_pos (by omega)]
      exact ev_lenL (ev_var rfl) hl
    · have hb := of_decide_eq_false hb
      rw [sidesN, if_neg (by omega)]
      exact ev_c⟩)
def spSides : Sp := mkSp (α := List Nat × Nat) (fun a H vs => ∃ v, vs = [v, .int (a.2 : Int)] ∧ LR IsN H v a.1 ∧ a.1.length ≤ 1000 ∧ a.1.Pairwise (· < ·) ∧ ∀ s ∈ a.1, s < a.2) (fun _ _ v => v = .bl true)
theorem sc_are_sides : FnScope ["value", "many", "item", "one", "other"] ["value", "many"] (defScope s_are_sides) := ⟨rfl, rfl, rfl, by decide +kernel, rfl, by decide +kernel, by decide +kernel⟩
theorem ok_are_sides (F : FnP K "are_sides" s_are_sides f fd) (N : Nm mg) {fI : Addr} {fdI : FuncData} (u_is_between : Use P w K mg base "is_between" 2 ["value", "least", "most"] spIsBtw fI fdI) : FnOk P w K mg base CX0 3 f fd ["value", "many"] spSides :=
  F.ok sc_are_sides (len_mk fun _ _ _ ⟨_, h, _⟩ => by rw [h]; rfl) (fun cdv A outer s H vs Q E hr h => ⟨_, PSs.nox (pss_cons (ps_if (PW.pt (pw_or (pt_not (pt_val (pe_callB call_isi (by rfl) N.isinstance (by decide +kernel) (pa_cons (pv 0) (pa_cons (pe_bltn (v := .ty "list") (u := .type "list") (by rfl) N.list (by decide +kernel) rfl) pa_nil))))) (pw_or1 (pt_not (pt_val (pe_callB (cr_all rfl) (by rfl) N.all (by decide +kernel) (pa_cons (pe_lc (own := [("item", 2)]) (g := gName 2) rfl sc_are_sides.nd (pi_list (pv 0)) (blkOk_by (own := [("item", 2)]) (N := ["value", "many", "item", "one", "other"]) (sc := defScope s_are_sides) (by decide +kernel)) (fun _ _ _ _ _ => (pg_name (i := 2) sc_are_sides.nd rfl (Or.inl rfl))) (fun _ _ _ _ _ => pts_nil) (fun _ _ _ _ _ => (pe_call u_is_between.ok (hr.mono (by decide)) rfl u_is_between.g u_is_between.kp u_is_between.b .nil pass0 (pa_cons (pv 2) (pa_cons pe_int (pa_cons (pe_op op_sub (pv 1) pe_int) pa_nil)))))) pa_nil))))))) (pss_one (ps_ret pe_bl)) pss_nil) (pss_one (ps_ret (pe_callB (cr_all rfl) (by rfl) N.all (by decide +kernel) (pa_cons (pe_lc (own := [("one", 3), ("other", 4)]) rfl sc_are_sides.nd (pi_zip rfl N.zip (pa_cons (pv 0) (pa_cons (pe_slice sl_list (pv 0) (po_some pe_int) po_none) pa_nil))) (blkOk_by (own := [("one", 3), ("other", 4)]) (N := ["value", "many", "item", "one", "other"]) (sc := defScope s_are_sides) (by decide +kernel)) (fun _ _ _ _ _ => (pg_tupK (K := K) (n := 2) rfl rfl (pgs_cons (pg_name (i := 3) sc_are_sides.nd rfl (Or.inl rfl)) (pgs_cons (pg_name (i := 4) sc_are_sides.nd rfl (Or.inl rfl)) pgs_nil)))) (fun _ _ _ _ _ => pts_nil) (fun _ _ _ _ _ => (pe_cmpR op_lt (pv 3) (pv 4) (nomark _)))) pa_nil))))), by
    obtain ⟨⟨ss, n⟩, ⟨v, rfl, hl, hz, hp, hb⟩, k⟩ := h
    have hl : LR IsN H v ss := hl
    have hz : ss.length ≤ 1000 := hz
    refine q_when (b := false) ?_ (fun z => by cases z) (fun _ H1 e1 => ?_)
    · refine et_is (et_or (et_not (et_B (ev_isi "list" "list" true (ev_var rfl) (ty_lst hl mt_n.mo) (by decide +kernel)))) fun _ => et_not (et_B (ev_is (ev_all (bs := ss.map fun _ => true) ?_) (congrArg V.bl (all_map_true fun _ _ => rfl))))) rfl
      rw [← fil_true ss]
      refine er_lc (S := IsN) (S' := IsB) (fun _ => true) (fun _ => true) mt_n.mo mt_bl (er_var rfl ((mo_lr mt_n.mo).at _) hl) (by omega) fun x H1 hx e => tn_name (fun _ => rfl) fun u H2 e2 s => ?_
      cases s
      have hx := hb x hx
      exact (er_use ((x : Int), 0, (n : Int) - 1) (ea3 (ev_var rfl) ev_c (ev_op (ev_var rfl) ev_c rv_I0)) fun H3 e3 => ⟨rfl, by show (0 : Int) ≤ x; omega, by show (x : Int) ≤ n - 1; have : x < n := hx; omega⟩)
    · have hl1 := mo_lr mt_n.mo _ _ _ _ e1 hl
      refine s_ret (ev_is (ev_all (bs := (ss.zip (ss.drop 1)).map fun _ => true) ?_) (congrArg V.bl (all_map_true fun _ _ => rfl))) fun H4 e4 => k _ _ (e1.trans e4) rfl
      refine er_lcZ (S := IsN) (S2 := IsN) (S' := IsB) (fun _ => true) mt_n.mo mt_n.mo mt_bl (er_var rfl ((mo_lr mt_n.mo).at _) hl1) (er_from 1 rfl (ev_var rfl) hl1 mt_n.mo) (by omega) (fun _ _ => rfl) fun x y vx vy H4 hxy e4 tx ty => ?_
      cases tx
      cases ty
      obtain ⟨i, hi, hx⟩ := List.mem_iff_getElem.mp hxy
      rw [List.getElem_zip] at hx
      rw [List.length_zip, List.length_drop] at hi
      have e1 : ss[i]'(by omega) = x := congrArg Prod.fst hx
      have e2 : (ss.drop 1)[i]'(by rw [List.length_drop]; omega) = y := congrArg Prod.snd hx
      rw [List.getElem_drop] at e2
      have hlt := List.pairwise_iff_getElem.mp hp i (1 + i) (by show i < ss.length; omega) (by show 1 + i < ss.length; omega) (by omega)
      have hlt : x < y := by rw [← e1, ← e2]; exact hlt
      exact er_ev (ev_op (ev_var rfl) (ev_var rfl) rv_I0) fun _ _ => congrArg V.bl (decide_eq_true (by show (x : Int) < y; omega))⟩)
/-! ### a fence -/
theorem asc_len {m : Nat} : ∀ (ss : List Nat) (lo : Nat), ss.Pairwise (· < ·) → (∀ s ∈ ss, lo ≤ s ∧ s < m) → ss.length ≤ m - lo
  | [], lo, _, _ => Nat.zero_le _
  | s :: r, lo, hp, hb => by
    rw [List.pairwise_cons] at hp
    have h1 := hb s (List.mem_cons_self ..)
    have h2 := asc_len r (s + 1) hp.2 fun t ht => ⟨hp.1 t ht, (hb t (List.mem_cons_of_mem _ ht)).2⟩
    rw [List.length_cons]
    omega
theorem sidesN_le (n : Nat) : sidesN n ≤ n := by
  unfold sidesN
  split <;> omega
theorem valid_len {q : Fen} (h : Valid q) : q.2.2.length ≤ 1000 := by
  obtain ⟨_, _, hc, hp, hb⟩ := h
  have h2 := asc_len q.2.2 0 hp fun s hs => ⟨Nat.zero_le _, hb s hs⟩
  have h3 := sidesN_le q.2.1.length
  have h4 := hc.2.1
  omega
def spFault : Sp := mkSp (α := Fen) (fun q H vs => ∃ v, vs = [v] ∧ FenV H v q ∧ Valid q) (fun _ H v => TN H v [])
theorem sc_fence_fault : FnScope ["value"] ["value"] (defScope s_fence_fault) := ⟨rfl, rfl, rfl, by decide +kernel, rfl, by decide +kernel, by decide +kernel⟩
theorem ok_fence_fault (F : FnP K "fence_fault" s_fence_fault f fd) (N : Nm mg) {fI fJ fL fM : Addr} {fdI fdJ fdL fdM : FuncData} (u_is_between : Use P w K mg base "is_between" 2 ["value", "least", "most"] spIsBtw fI fdI) (u_are_corners : Use P w K mg base "are_corners" 4 ["value"] spCorners fJ fdJ) (u_are_sides : Use P w K mg base "are_sides" 3 ["value", "many"] spSides fL fdL) (u_sides_of : Use P w K mg base "sides_of" 1 ["corners"] spSidesOf fM fdM) : FnOk P w K mg base CX0 5 f fd ["value"] spFault :=
  F.ok sc_fence_fault (len_mk fun _ _ _ ⟨_, h, _⟩ => by rw [h]; rfl) (fun cdv A outer s H vs Q E hr h => ⟨_, PSs.nox (pss_cons (ps_if (PW.pt (pw_or (pt_not (pt_val (pe_callB call_isi (by rfl) N.isinstance (by decide +kernel) (pa_cons (pv 0) (pa_cons (pe_bltn (v := .ty "tuple") (u := .type "tuple") (by rfl) N.tuple (by decide +kernel) rfl) pa_nil))))) (pw_or1 (pt_cmpR op_ne (pe_callB call_len_seq (by rfl) N.len (by decide +kernel) (pa_cons (pv 0) pa_nil)) pe_int (nomark _))))) (pss_one (ps_ret (pe_tup (pa_cons pe_non pa_nil)))) pss_nil) (pss_cons (ps_if (pt_not (pt_val (pe_call u_is_between.ok (hr.mono (by decide)) rfl u_is_between.g u_is_between.kp u_is_between.b .nil pass0 (pa_cons (pe_ix ix_seq (pv 0) pe_int (fun _ _ => rfl)) (pa_cons pe_int (pa_cons (pe_num rfl N.MOST_PARTS) pa_nil)))))) (pss_one (ps_ret (pe_tup (pa_cons pe_str pa_nil)))) pss_nil) (pss_cons (ps_if (pt_not (pt_val (pe_call u_are_corners.ok (hr.mono (by decide)) rfl u_are_corners.g u_are_corners.kp u_are_corners.b .nil pass0 (pa_cons (pe_ix ix_seq (pv 0) pe_int (fun _ _ => rfl)) pa_nil)))) (pss_one (ps_ret (pe_tup (pa_cons pe_str pa_nil)))) pss_nil) (pss_one (ps_ret (pe_ifExp (pt_val (pe_call u_are_sides.ok (hr.mono (by decide)) rfl u_are_sides.g u_are_sides.kp u_are_sides.b .nil pass0 (pa_cons (pe_ix ix_seq (pv 0) pe_int (fun _ _ => rfl)) (pa_cons (pe_call u_sides_of.ok (hr.mono (by decide)) rfl u_sides_of.g u_sides_of.kp u_sides_of.b .nil pass0 (pa_cons (pe_ix ix_seq (pv 0) pe_int (fun _ _ => rfl)) pa_nil)) pa_nil)))) (pe_tup pa_nil) (pe_tup (pa_cons pe_str pa_nil)))))))), by
    obtain ⟨q, ⟨v, rfl, hf, hv⟩, k⟩ := h
    obtain ⟨x, y, ht, hx, hy⟩ := hf.tn
    have hv2 := hv
    obtain ⟨v1, v2, v3, v4, v5⟩ := hv
    refine q_when (b := false) ?_ (fun z => by cases z) (fun _ H1 e1 => ?_)
    · exact et_is (et_or (et_not (et_B (ev_isi "tuple" "tuple" true (ev_var rfl) (ty_tup ht) (by decide +kernel)))) fun _ => et_test (ev_op (ev_lenT (ev_var rfl) ht) ev_c (rv_ne rfl))) rfl
    have ht1 := mo_tn _ _ _ _ e1 ht
    refine q_when (b := false) ?_ (fun z => by cases z) (fun _ H2 e2 => ?_)
    · exact et_is (et_not (et_B (ev_er (er_use (q.1, 1, 30) (ea3 (ev_ixt (ev_var rfl) ht1 ev_c rfl) ev_c ev_c) fun H3 e3 => ⟨rfl, v1, v2⟩)))) rfl
    have ht2 := mo_tn _ _ _ _ e2 ht1
    refine q_when (b := false) ?_ (fun z => by cases z) (fun _ H3 e3 => ?_)
    · exact et_is (et_not (et_B (ev_er (er_use q.2.1 (ea1 (ev_ixt (ev_var rfl) ht2 ev_c rfl)) fun H3 e3 => ⟨x, rfl, mo_lr mo_t2 _ _ _ _ ((e1.trans e2).trans e3) hx, v3⟩)))) rfl
    have ht3 := mo_tn _ _ _ _ e3 ht2
    refine s_retR (er_if (b := true) (et_B (ev_er (er_use (q.2.2, sidesN q.2.1.length) (ea2 (ev_ixt (ev_var rfl) ht3 ev_c rfl) (ev_er (er_use q.2.1 (ea1 (ev_ixt (ev_var rfl) ht3 ev_c rfl)) fun H4 e4 => ⟨x, rfl, mo_lr mo_t2 _ _ _ _ (((e1.trans e2).trans e3).trans e4) hx⟩))) fun H4 e4 => ⟨y, rfl, mo_lr mt_n.mo _ _ _ _ (((e1.trans e2).trans e3).trans e4) hy, valid_len hv2, v4, v5⟩))) (fun _ => er_tn (vs := []) ea_nil (by simp)) (fun z => by cases z)) fun u H4 e4 r => k _ _ (((e1.trans e2).trans e3).trans e4) r⟩)
def spReqFence : Sp := mkSp (α := Fen) (fun q H vs => ∃ v, vs = [v] ∧ FenV H v q ∧ Valid q) (fun _ _ v => v = .non)
theorem sc_require_fence : FnScope ["fence", "fault"] ["fence"] (defScope s_require_fence) := ⟨rfl, rfl, rfl, by decide +kernel, rfl, by decide +kernel, by decide +kernel⟩
theorem ok_require_fence (F : FnP K "require_fence" s_require_fence f fd) {fI : Addr} {fdI : FuncData} (u_fence_fault : Use P w K mg base "fence_fault" 5 ["value"] spFault fI fdI) : FnOk P w K mg base CX0 6 f fd ["fence"] spReqFence :=
  F.ok sc_require_fence (len_mk fun _ _ _ ⟨_, h, _⟩ => by rw [h]; rfl) (fun cdv A outer s H vs Q E hr h => ⟨_, PSs.nox (pss_cons (ps_set (i := 1) sc_require_fence.nd rfl (Or.inl rfl) (pe_call u_fence_fault.ok (hr.mono (by decide)) rfl u_fence_fault.g u_fence_fault.kp u_fence_fault.b .nil pass0 (pa_cons (pv 0) pa_nil))) (pss_one (ps_if (pt_cmpR (op_neD hr.units) (pv 1) (pe_tup pa_nil) (by rfl)) (pss_one ps_never) pss_nil))), by
    obtain ⟨q, ⟨v, rfl, hf, hv⟩, k⟩ := h
    refine q_asgR (er_use q (ea1 (ev_var rfl)) fun H1 e => ⟨v, rfl, mo_fen _ _ _ _ e hf, hv⟩) fun u H1 e1 r => ?_
    refine s_when (b := false) (fun H2 e2 Q2 q2 => ⟨u, rfl, ?_⟩) (fun z => by cases z) (fun _ H2 e2 => k _ _ (e1.trans e2) rfl)
    refine ⟨by decide, fun p hp => ⟨.tuple [], .tuple [], ?_, ?_, rfl, rfl, false, rfl, q2 _ (Ex.new hp)⟩⟩
    · obtain ⟨a, rfl, ha⟩ := mo_tn _ _ _ _ (e2.trans (Ex.new hp)) r
      exact .tup (st_of ha) .nil
    · exact .tup (st_of upd_same) .nil⟩)
def spReqSize : Sp := mkSp (α := Int) (fun a H vs => vs = [.int a] ∧ 1 ≤ a ∧ a ≤ 10 ^ 30) (fun _ _ v => v = .non)
theorem sc_require_size : FnScope ["size"] ["size"] (defScope s_require_size) := ⟨rfl, rfl, rfl, by decide +kernel, rfl, by decide +kernel, by decide +kernel⟩
theorem ok_require_size (F : FnP K "require_size" s_require_size f fd) (N : Nm mg) {fI : Addr} {fdI : FuncData} (u_is_between : Use P w K mg base "is_between" 2 ["value", "least", "most"] spIsBtw fI fdI) : FnOk P w K mg base CX0 3 f fd ["size"] spReqSize :=
  F.ok sc_require_size (len_mk fun _ _ _ h => by rw [h.1]; rfl) (fun cdv A outer s H vs Q E hr h => ⟨_, PSs.nox (pss_one (ps_if (pt_not (pt_val (pe_call u_is_between.ok (hr.mono (by decide)) rfl u_is_between.g u_is_between.kp u_is_between.b .nil pass0 (pa_cons (pv 0) (pa_cons pe_int (pa_cons (pe_num rfl N.MOST_SIZE) pa_nil)))))) (pss_one ps_never) pss_nil)), by
    obtain ⟨a, ⟨rfl, h1, h2⟩, k⟩ := h
    exact s_when (b := false) (et_is (et_not (et_B (ev_er (er_use (a, 1, 10 ^ 30) (ea3 (ev_var rfl) ev_c ev_c) fun H1 e => ⟨rfl, h1, h2⟩)))) rfl) (fun z => by cases z) (fun _ H2 e2 => k _ _ e2 rfl)⟩)
def spReqInt : Sp := mkSp (α := Int) (fun a H vs => vs = [.int a]) (fun _ _ v => v = .non)
theorem sc_require_integer : FnScope ["number"] ["number"] (defScope s_require_integer) := ⟨rfl, rfl, rfl, by decide +kernel, rfl, by decide +kernel, by decide +kernel⟩
theorem ok_require_integer (F : FnP K "require_integer" s_require_integer f fd) {fI : Addr} {fdI : FuncData} (u_is_integer : Use P w K mg base "is_integer" 1 ["value"] spIsInt fI fdI) : FnOk P w K mg base CX0 2 f fd ["number"] spReqInt :=
  F.ok sc_require_integer (len_mk fun _ _ _ h => by rw [h]; rfl) (fun cdv A outer s H vs Q E hr h => ⟨_, PSs.nox (pss_one (ps_if (pt_not (pt_val (pe_call u_is_integer.ok (hr.mono (by decide)) rfl u_is_integer.g u_is_integer.kp u_is_integer.b .nil pass0 (pa_cons (pv 0) pa_nil)))) (pss_one ps_never) pss_nil)), by
    obtain ⟨a, rfl, k⟩ := h
    exact s_when (b := false) (et_is (et_not (et_B (ev_er (er_use a (ea1 (ev_var rfl)) fun H1 e => rfl)))) rfl) (fun z => by cases z) (fun _ H2 e2 => k _ _ e2 rfl)⟩)
def spReqSide : Sp := mkSp (α := Fen × Nat) (fun a H vs => ∃ v, vs = [v, .int (a.2 : Int)] ∧ FenV H v a.1 ∧ a.2 < sidesN a.1.2.1.length) (fun _ _ v => v = .non)
theorem sc_require_side : FnScope ["fence", "side"] ["fence", "side"] (defScope s_require_side) := ⟨rfl, rfl, rfl, by decide +kernel, rfl, by decide +kernel, by decide +kernel⟩
theorem ok_require_side (F : FnP K "require_side" s_require_side f fd) {fI fM : Addr} {fdI fdM : FuncData} (u_is_between : Use P w K mg base "is_between" 2 ["value", "least", "most"] spIsBtw fI fdI) (u_sides_of : Use P w K mg base "sides_of" 1 ["corners"] spSidesOf fM fdM) : FnOk P w K mg base CX0 3 f fd ["fence", "side"] spReqSide :=
  F.ok sc_require_side (len_mk fun _ _ _ ⟨_, h, _⟩ => by rw [h]; rfl) (fun cdv A outer s H vs Q E hr h => ⟨_, PSs.nox (pss_one (ps_if (pt_not (pt_val (pe_call u_is_between.ok (hr.mono (by decide)) rfl u_is_between.g u_is_between.kp u_is_between.b .nil pass0 (pa_cons (pv 1) (pa_cons pe_int (pa_cons (pe_op op_sub (pe_call u_sides_of.ok (hr.mono (by decide)) rfl u_sides_of.g u_sides_of.kp u_sides_of.b .nil pass0 (pa_cons (pe_ix ix_seq (pv 0) pe_int (fun _ _ => rfl)) pa_nil)) pe_int) pa_nil)))))) (pss_one ps_never) pss_nil)), by
    obtain ⟨⟨q, n⟩, ⟨v, rfl, hf, hn⟩, k⟩ := h
    obtain ⟨x, y, ht, hx, hy⟩ := hf.tn
    have hn : n < sidesN q.2.1.length := hn
    exact s_when (b := false) (et_is (et_not (et_B (ev_er (er_use ((n : Int), 0, (sidesN q.2.1.length : Int) - 1) (ea3 (ev_var rfl) ev_c (ev_op (ev_er (er_use q.2.1 (ea1 (ev_ixt (ev_var rfl) ht ev_c rfl)) fun H1 e => ⟨x, rfl, mo_lr mo_t2 _ _ _ _ e hx⟩)) ev_c rv_I0)) fun H1 e => ⟨rfl, by show (0 : Int) ≤ n; omega, by show (n : Int) ≤ _ - 1; omega⟩)))) rfl) (fun z => by cases z) (fun _ H2 e2 => k _ _ e2 rfl)⟩)
def spReqPoint : Sp := mkSp (α := Pt) (fun p H vs => ∃ v, vs = [v] ∧ T2 H v p) (fun _ _ v => v = .non)
theorem sc_require_point : FnScope ["point"] ["point"] (defScope s_require_point) := ⟨rfl, rfl, rfl, by decide +kernel, rfl, by decide +kernel, by decide +kernel⟩
theorem ok_require_point (F : FnP K "require_point" s_require_point f fd) {fI : Addr} {fdI : FuncData} (u_are_integers : Use P w K mg base "are_integers" 2 ["value", "many"] spAreInts fI fdI) : FnOk P w K mg base CX0 3 f fd ["point"] spReqPoint :=
  F.ok sc_require_point (len_mk fun _ _ _ ⟨_, h, _⟩ => by rw [h]; rfl) (fun cdv A outer s H vs Q E hr h => ⟨_, PSs.nox (pss_one (ps_if (pt_not (pt_val (pe_call u_are_integers.ok (hr.mono (by decide)) rfl u_are_integers.g u_are_integers.kp u_are_integers.b .nil pass0 (pa_cons (pv 0) (pa_cons pe_int pa_nil))))) (pss_one ps_never) pss_nil)), by
    obtain ⟨p, ⟨v, rfl, t⟩, k⟩ := h
    exact s_when (b := false) (et_is (et_not (et_B (ev_er (er_use p (ea2 (ev_var rfl) ev_c) fun H1 e => ⟨v, rfl, mo_t2 _ _ _ _ e t⟩)))) rfl) (fun z => by cases z) (fun _ H2 e2 => k _ _ e2 rfl)⟩)
end
end GF
set_option Elab.async false
set_option linter.all false
/-! The shapes in plain Lean: pairs, spans, edges. -/
namespace GF
abbrev PP := P2 × P2
def pairsM (cs : List P2) : List PP := if cs.length < 3 then [(at_ cs 0, at_ cs (cs.length - 1))] else cs.zip (cs.drop 1 ++ cs.take 1)
abbrev Span := Int × Int × Int × Int
def spanM (b : Int) (p q : P2) : Option Span :=
  let g : Int := Int.gcd (q.1 - p.1) (q.2 - p.2)
  let wide := (q.1 - p.1).fdiv g
  let up := (q.2 - p.2).fdiv g
  let beside := wide * p.2 - up * p.1
  if beside.fmod b ≠ 0 then none
  else
    let lr := bezM wide up
    some (rup (lr.1 * p.1 + lr.2 * p.2) b, (lr.1 * q.1 + lr.2 * q.2).fdiv b, up, lr.1 * beside.fdiv b)
def mn (i j : Int) : Int := if j < i then j else i
def mx (i j : Int) : Int := if j > i then j else i
def spanCnt : Option Span → Option Int → Int
  | none, _ => 0
  | some (lo, hi, _, _), none => mx 0 (hi - lo + 1)
  | some (lo, hi, rise, base), some row =>
    if rise > 0 then mx 0 (mn hi ((row - base).fdiv rise) - lo + 1)
    else if rise < 0 then mx 0 (hi - mx lo (rup (base - row) (-rise)) + 1)
    else if base > row then 0
    else mx 0 (hi - lo + 1)
/-! ### the sort: stable, so there is one answer -/
section
variable {α : Type} (key : α → Int)
def StSort (xs ys : List α) : Prop := ys.Perm xs ∧ ys.Pairwise (fun a b => key a ≤ key b) ∧ ∀ c, ys.filter (fun a => key a == c) = xs.filter (fun a => key a == c)
theorem sorted_one : ∀ (xs ys : List α), xs.Pairwise (fun a b => key a ≤ key b) → ys.Pairwise (fun a b => key a ≤ key b) → (∀ c, xs.filter (fun a => key a == c) = ys.filter (fun a => key a == c)) → xs = ys
  | [], [], _, _, _ => rfl
  | [], y :: ys, _, _, h => by
    have := h (key y)
    simp at this
  | x :: xs, [], _, _, h => by
    have := h (key x)
    simp at this
  | x :: xs, y :: ys, hx, hy, h => by
    rw [List.pairwise_cons] at hx hy
    have mem : ∀ {a : α} {as bs : List α}, (∀ c, as.filter (fun a => key a == c) = bs.filter (fun a => key a == c)) → a ∈ as → a ∈ bs := fun {a as bs} h ha => by
      have h1 : a ∈ as.filter (fun b => key b == key a) := List.mem_filter.mpr ⟨ha, by simp⟩
      rw [h] at h1
      exact (List.mem_filter.mp h1).1
    have h1 : key y ≤ key x := by
      rcases List.mem_cons.mp (mem h (List.mem_cons_self ..)) with e | e
      · rw [e]
        exact Int.le_refl _
      · exact hy.1 x e
    have h2 : key x ≤ key y := by
      rcases List.mem_cons.mp (mem (fun c => (h c).symm) (List.mem_cons_self ..)) with e | e
      · rw [e]
        exact Int.le_refl _
      · exact hx.1 y e
    have hk : key x = key y := Int.le_antisymm h2 h1
    have e : x = y := by
      have h3 := h (key x)
      rw [List.filter_cons, if_pos (by simp), List.filter_cons, if_pos (by simp [hk])] at h3
      exact (List.cons.inj h3).1
    subst e
    rw [sorted_one xs ys hx.2 hy.2 fun c => by
      have h3 := h c
      rw [List.filter_cons, List.filter_cons] at h3
      by_cases hc : (key x == c) = true
      · rw [if_pos hc, if_pos hc] at h3
        exact (List.cons.inj h3).2
      · rw [if_neg hc, if_neg hc] at h3
        exact h3]
open Classical in
noncomputable def sortM (xs : List α) : List α := if h : ∃ ys, StSort key xs ys then choose h else []
theorem sortM_eq {xs ys : List α} (h : StSort key xs ys) : sortM key xs = ys := by
  have hx : ∃ ys, StSort key xs ys := ⟨ys, h⟩
  have hs : StSort key xs (sortM key xs) := by
    unfold sortM
    rw [dif_pos hx]
    exact Classical.choose_spec hx
  exact sorted_one key _ _ hs.2.1 h.2.1 fun c => (hs.2.2 c).trans (h.2.2 c).symm
end
abbrev Edge := Int × Int × Int × Int × Int
def keyPP (q : PP) : Int := q.1.2
def edgeOf (b : Int) (fst : Option Int) (q : PP) : Edge := (b * (q.2.1 - q.1.1), q.1.1 * (q.2.2 - q.1.2) - q.1.2 * (q.2.1 - q.1.1), b * (q.2.2 - q.1.2), fst.getD (rup q.1.2 b), q.2.2.fdiv b)
def edgesGo (b : Int) : Option Int → List PP → List Edge
  | _, [] => []
  | fst, q :: r => edgeOf b fst q :: edgesGo b (some (q.2.2.fdiv b + 1)) r
noncomputable def edgesM (b : Int) (ps : List PP) : List Edge := edgesGo b none (sortM keyPP ps)
def edgeSumM (e : Edge) (row : Option Int) (sign : Int) : Int :=
  let last := match row with
    | none => e.2.2.2.2
    | some r => mn e.2.2.2.2 r
  FS (last - e.2.2.2.1 + 1) (sign * e.1) (sign * (e.2.1 + e.1 * e.2.2.2.1)) e.2.2.1
end GF
set_option Elab.async false
set_option linter.all false
set_option maxRecDepth 100000
set_option maxHeartbeats 4000000
set_option exponentiation.threshold 100000
namespace GF
open PySem PySem.Spec PyProof.Rows L2 Evl
theorem Bd.sub1 {n : Nat} {i j : Int} (h : Bd n i) (g : Bd n j) : Bd (n + 1) (i - j) := by
  unfold Bd at *
  rw [Nat.pow_succ]
  omega
theorem Bd.add1 {n : Nat} {i j : Int} (h : Bd n i) (g : Bd n j) : Bd (n + 1) (i + j) := by
  unfold Bd at *
  rw [Nat.pow_succ]
  omega
theorem er_cat {α : Type} {S : Hp → V → α → Prop} {ta tb : TE} {σ : L2.St} {H : Hp} {xs ys : List α} (mS : Mo2 S) (ha : ER ta σ H (fun H' v => LR S H' v xs)) (hb : ER tb σ H (fun H' v => LR S H' v ys)) (hz : xs.length + ys.length ≤ 100000) : ER (tOp rCat ta tb) σ H (fun H' v => LR S H' v (xs ++ ys)) :=
  er_op ha ((mo_lr mS).at xs) hb fun H1 x y e ⟨a, vs, e1, e2, e3⟩ ⟨b, us, e4, e5, e6⟩ Q q => ⟨a, b, vs, us, e1, e4, e2, e5, sz_of (by rw [e3.1, e6.1]; exact hz), fun p hp => q _ _ (Ex.new hp) ⟨p, _, rfl, upd_same, (e3.mono fun v x => mS _ _ v x (Ex.new hp)).app (e6.mono fun v x => mS _ _ v x (Ex.new hp))⟩⟩
theorem q_tup3 {K : PySem.W.Frag} {i1 i2 i3 : Nat} {te : TE} {tz : TS} {D : Ends} {σ : L2.St} {H : Hp} {a v1 v2 v3 : V} (h : Ev te σ H a) (ht : TN H a [v1, v2, v3]) (k : ∀ H1, Ex H H1 → tz D (((σ.set i1 (some v1)).set i2 (some v2)).set i3 (some v3)) H1) : tSeq (tAsg te (gTup K 3 (gCons (gName i1) (gCons (gName i2) (gCons (gName i3) gNil))))) tz D σ H := by
  obtain ⟨p, rfl, hp⟩ := ht
  exact h H (Ex.refl H) (fun x H1 => gTup K 3 (gCons (gName i1) (gCons (gName i2) (gCons (gName i3) gNil))) x σ H1 (tz D)) fun H2 e2 => ⟨p, _, rfl, st_of (e2 _ _ hp), rfl, _, _, rfl, _, _, rfl, _, _, rfl, rfl, k H2 e2⟩
theorem q_tup4 {K : PySem.W.Frag} {i1 i2 i3 i4 : Nat} {te : TE} {tz : TS} {D : Ends} {σ : L2.St} {H : Hp} {a v1 v2 v3 v4 : V} (h : Ev te σ H a) (ht : TN H a [v1, v2, v3, v4]) (k : ∀ H1, Ex H H1 → tz D ((((σ.set i1 (some v1)).set i2 (some v2)).set i3 (some v3)).set i4 (some v4)) H1) : tSeq (tAsg te (gTup K 4 (gCons (gName i1) (gCons (gName i2) (gCons (gName i3) (gCons (gName i4) gNil)))))) tz D σ H := by
  obtain ⟨p, rfl, hp⟩ := ht
  exact h H (Ex.refl H) (fun x H1 => gTup K 4 (gCons (gName i1) (gCons (gName i2) (gCons (gName i3) (gCons (gName i4) gNil)))) x σ H1 (tz D)) fun H2 e2 => ⟨p, _, rfl, st_of (e2 _ _ hp), rfl, _, _, rfl, _, _, rfl, _, _, rfl, _, _, rfl, rfl, k H2 e2⟩
theorem q_tup5 {K : PySem.W.Frag} {i1 i2 i3 i4 i5 : Nat} {te : TE} {tz : TS} {D : Ends} {σ : L2.St} {H : Hp} {a v1 v2 v3 v4 v5 : V} (h : Ev te σ H a) (ht : TN H a [v1, v2, v3, v4, v5]) (k : ∀ H1, Ex H H1 → tz D (((((σ.set i1 (some v1)).set i2 (some v2)).set i3 (some v3)).set i4 (some v4)).set i5 (some v5)) H1) : tSeq (tAsg te (gTup K 5 (gCons (gName i1) (gCons (gName i2) (gCons (gName i3) (gCons (gName i4) (gCons (gName i5) gNil))))))) tz D σ H := by
  obtain ⟨p, rfl, hp⟩ := ht
  exact h H (Ex.refl H) (fun x H1 => gTup K 5 (gCons (gName i1) (gCons (gName i2) (gCons (gName i3) (gCons (gName i4) (gCons (gName i5) gNil))))) x σ H1 (tz D)) fun H2 e2 => ⟨p, _, rfl, st_of (e2 _ _ hp), rfl, _, _, rfl, _, _, rfl, _, _, rfl, _, _, rfl, _, _, rfl, rfl, k H2 e2⟩
/-- list(zip(xs, ys)) of points -/
theorem er_zipPP {K : PySem.W.Frag} {ta tb : TE} {σ : L2.St} {H : Hp} {xs ys : List Pt} (ha : ER ta σ H (fun H' v => LR T2 H' v xs)) (hb : ER tb σ H (fun H' v => LR T2 H' v ys)) (hl : xs.length = ys.length) : ER (tListZip K (tCons ta (tCons tb tNil))) σ H (fun H' v => LR TPP H' v (xs.zip ys)) := fun H1 e Q q =>
  ha H1 e _ fun v H2 e2 ⟨a, vs, ea, a2, a3⟩ => hb H2 (e.trans e2) _ fun u H3 e3 ⟨b, us, eb, b2, b3⟩ => by
    have a3' := a3.mono fun v x => mo_t2 _ _ v x e3
    refine ⟨a, b, vs, us, by rw [ea, eb], sq_of (e3 _ _ a2), sq_of b2, by rw [a3.1, b3.1, hl], fun H' p ts hs hp hH hts => q _ _ ((e2.trans e3).trans hs) ⟨p, _, rfl, hH, ?_⟩⟩
    have hlen := Paired.length hts
    refine ⟨by rw [List.length_map, hlen, List.length_zip, List.length_zip, a3.1, b3.1], fun i v d h1 h2 => ?_⟩
    rw [List.getElem?_map] at h1
    cases ht : ts[i]? with
    | none =>
      rw [ht] at h1
      cases h1
    | some t =>
      rw [ht] at h1
      cases h1
      obtain ⟨d1, d2⟩ := d
      rw [List.getElem?_zip_eq_some] at h2
      obtain ⟨x, hx1, hx2⟩ := a3'.at h2.1
      obtain ⟨y, hy1, hy2⟩ := b3.at h2.2
      have hz : (vs.zip us)[i]? = some (x, y) := by rw [List.getElem?_zip_eq_some]; exact ⟨hx1, hy1⟩
      have hq : H' t = some (.tup [x, y]) := by
        clear q hs hp hH hlen a3' a3 b3 hl a2 b2
        have hgen : ∀ {ts : List Addr} {qs : List (V × V)} {i : Nat} {t : Addr} {q : V × V}, Paired (fun (t : Addr) (q : V × V) => H' t = some (.tup [q.1, q.2])) ts qs → ts[i]? = some t → qs[i]? = some q → H' t = some (.tup [q.1, q.2]) := by
          intro ts qs i t q h
          induction h generalizing i with
          | nil => intro e; simp at e
          | cons h1 h2 ih =>
            cases i with
            | zero =>
              intro e1 e2
              simp at e1 e2
              subst e1
              subst e2
              exact h1
            | succ n =>
              intro e1 e2
              exact ih (by simpa using e1) (by simpa using e2)
        exact hgen hts ht hz
      exact ⟨t, x, y, rfl, hq, mo_t2 _ _ _ _ hs hx2, mo_t2 _ _ _ _ hs hy2⟩
section
variable {P : Program} {w : World} {K : PySem.W.Frag} {mg : Str → Option Value} {base : Heap} {f : Addr} {fd : FuncData}
/-! ### pairs_around -/
def spPairs : Sp := mkSp (α := List Pt) (fun cs H vs => ∃ v, vs = [v] ∧ LR T2 H v cs ∧ 1 ≤ cs.length ∧ cs.length ≤ 1000) (fun cs H v => LR TPP H v (pairsM cs))
theorem er_pp {ta tb : TE} {σ : L2.St} {H : Hp} {x y : V} {p q : Pt} (h : Ev ta σ H x) (g : Ev tb σ H y) (tx : T2 H x p) (ty : T2 H y q) : ER (tTup (tCons ta (tCons tb tNil))) σ H (fun H' v => TPP H' v (p, q)) :=
  (er_tn (ea2 h g) (by simp)).imp fun H1 v e ⟨a, h1, h2⟩ => ⟨a, x, y, h1, h2, mo_t2 _ _ _ _ e tx, mo_t2 _ _ _ _ e ty⟩
theorem at_last {cs : List P2} (h : 1 ≤ cs.length) : cs.getLast? = some (at_ cs (cs.length - 1)) := by
  rw [List.getLast?_eq_getElem?, at_get (by omega)]
theorem sc_pairs_around : FnScope ["corners"] ["corners"] (defScope s_pairs_around) := ⟨rfl, rfl, rfl, by decide +kernel, rfl, by decide +kernel, by decide +kernel⟩
theorem ok_pairs_around (F : FnP K "pairs_around" s_pairs_around f fd) (N : Nm mg) : FnOk P w K mg base CX0 1 f fd ["corners"] spPairs :=
  F.ok sc_pairs_around (len_mk fun _ _ _ ⟨_, h, _⟩ => by rw [h]; rfl) (fun cdv A outer s H vs Q E hr h => ⟨_, PSs.nox (pss_cons (ps_if (pt_cmpR op_lt (pe_callB call_len_seq (by rfl) N.len (by decide +kernel) (pa_cons (pv 0) pa_nil)) pe_int (nomark _)) (pss_one (ps_ret (pe_lst (pa_cons (pe_tup (pa_cons (pe_ix ix_seq (pv 0) pe_int (fun _ _ => rfl)) (pa_cons (pe_ix ix_seq (pv 0) (pe_un un_neg pe_int) (fun _ _ => rfl)) pa_nil))) pa_nil)))) pss_nil) (pss_one (ps_ret (pe_listZip rfl rfl N.list rfl N.zip (pa_cons (pv 0) (pa_cons (pe_op op_cat (pe_slice sl_list (pv 0) (po_some pe_int) po_none) (pe_slice sl_list (pv 0) po_none (po_some pe_int))) pa_nil)))))), by
    obtain ⟨cs, ⟨v, rfl, hl, h1, h2⟩, k⟩ := h
    refine q_when (et_test (ev_op (ev_lenL (ev_var rfl) hl) ev_c rv_I0)) (fun hlt H1 e1 => ?_) (fun hlt H1 e1 => ?_)
    · have hl1 := mo_lr mo_t2 _ _ _ _ e1 hl
      have hlt := of_decide_eq_true hlt
      have hlt : cs.length < 3 := by omega
      obtain ⟨w0, a0, b0⟩ := er_ixL (K := K) (i := 0) (ev_var (σ := L2.start ["corners"] [v]) (i := 0) rfl) hl1 mo_t2 ev_c (at_get (by omega))
      obtain ⟨w1, a1, b1⟩ := er_ixLast (K := K) (ti := tUn (rU fun i => .int (-i)) (tC (.int 1))) (ev_var (σ := L2.start ["corners"] [v]) (i := 0) rfl) hl1 (ev_un ev_c ru_neg) (at_last h1)
      refine s_retR (er_l2 (S := TPP) (ar_cons2 (er_pp a0 a1 b0 b1) mo_tpp ar_nil2) mo_tpp (by simp)) fun u H2 e2 r => k _ _ (e1.trans e2) ?_
      show LR TPP H2 u (pairsM cs)
      rw [pairsM, if_pos hlt]
      exact r
    · have hl1 := mo_lr mo_t2 _ _ _ _ e1 hl
      have hlt := of_decide_eq_false hlt
      have hlt : ¬ cs.length < 3 := by omega
      refine s_retR (er_zipPP (er_var rfl ((mo_lr mo_t2).at _) hl1) (er_cat mo_t2 (er_from 1 rfl (ev_var rfl) hl1 mo_t2) (er_to 1 rfl (ev_var rfl) hl1 mo_t2) (by rw [List.length_drop, List.length_take]; omega)) (by rw [List.length_append, List.length_drop, List.length_take]; omega)) fun u H2 e2 r => k _ _ (e1.trans e2) ?_
      show LR TPP H2 u (pairsM cs)
      rw [pairsM, if_neg hlt]
      exact r⟩)
/-! ### span_of, span_count -/
def TSp (H : Hp) (v : V) : Option Span → Prop
  | none => v = .non
  | some s => TN H v [.int s.1, .int s.2.1, .int s.2.2.1, .int s.2.2.2]
theorem mt_sp : MoT TSp := fun H H' v x e h => by
  cases x with
  | none => exact h
  | some s => exact mt_tn _ _ _ _ e h
def spSpanOf : Sp := mkSp (α := Int × Pt × Pt) (fun a H vs => ∃ x y, vs = [.int a.1, x, y] ∧ T2 H x a.2.1 ∧ T2 H y a.2.2 ∧ BdP 210 a.2.1 ∧ BdP 210 a.2.2 ∧ 0 < a.1 ∧ Bd 100 a.1 ∧ a.2.1 ≠ a.2.2) (fun a H v => TSp H v (spanM a.1 a.2.1 a.2.2))
theorem sc_span_of : FnScope ["bottom", "one", "other", "wide", "up", "part", "beside", "left", "right", "low", "high"] ["bottom", "one", "other"] (defScope s_span_of) := ⟨rfl, rfl, rfl, by decide +kernel, rfl, by decide +kernel, by decide +kernel⟩
theorem ok_span_of (F : FnP K "span_of" s_span_of f fd) {fI fJ fL : Addr} {fdI fdJ fdL : FuncData} (u_common_divisor : Use P w K mg base "common_divisor" 1 ["one", "other"] spGcd fI fdI) (u_bezout : Use P w K mg base "bezout" 1 ["one", "other"] spBez fJ fdJ) (u_round_up : Use P w K mg base "round_up" 1 ["top", "bottom"] spRup fL fdL) : FnOk P w K mg base CX0 2 f fd ["bottom", "one", "other"] spSpanOf :=
  F.ok sc_span_of (len_mk fun _ _ _ ⟨_, _, h, _⟩ => by rw [h]; rfl) (fun cdv A outer s H vs Q E hr h => ⟨_, PSs.nox (pss_cons (ps_par (i := 3) (j := 4) rfl sc_span_of.nd rfl rfl (by decide) rfl rfl (pa_cons (pe_op op_sub (pe_ix ix_seq (pv 2) pe_int (fun _ _ => rfl)) (pe_ix ix_seq (pv 1) pe_int (fun _ _ => rfl))) (pa_cons (pe_op op_sub (pe_ix ix_seq (pv 2) pe_int (fun _ _ => rfl)) (pe_ix ix_seq (pv 1) pe_int (fun _ _ => rfl))) pa_nil)) (by rfl)) (pss_cons (ps_set (i := 5) sc_span_of.nd rfl (Or.inl rfl) (pe_call u_common_divisor.ok (hr.mono (by decide)) rfl u_common_divisor.g u_common_divisor.kp u_common_divisor.b .nil pass0 (pa_cons (pv 3) (pa_cons (pv 4) pa_nil)))) (pss_cons (ps_par (i := 3) (j := 4) rfl sc_span_of.nd rfl rfl (by decide) rfl rfl (pa_cons (pe_op op_fdivX (pv 3) (pv 5)) (pa_cons (pe_op op_fdivX (pv 4) (pv 5)) pa_nil)) (by rfl)) (pss_cons (ps_set (i := 6) sc_span_of.nd rfl (Or.inl rfl) (pe_op op_sub (pe_op op_mulW (pv 3) (pe_ix ix_seq (pv 1) pe_int (fun _ _ => rfl))) (pe_op op_mulW (pv 4) (pe_ix ix_seq (pv 1) pe_int (fun _ _ => rfl))))) (pss_cons (ps_if (pt_cmpR op_ne (pe_op op_modN (pv 6) (pv 0)) pe_int (nomark _)) (pss_one (ps_ret pe_non)) pss_nil) (pss_cons (ps_asg (pe_call u_bezout.ok (hr.mono (by decide)) rfl u_bezout.g u_bezout.kp u_bezout.b .nil pass0 (pa_cons (pv 3) (pa_cons (pv 4) pa_nil))) (pg_tup rfl (pgs_cons (pg_name (i := 7) sc_span_of.nd rfl (Or.inl rfl)) (pgs_cons (pg_name (i := 8) sc_span_of.nd rfl (Or.inl rfl)) pgs_nil)))) (pss_cons (ps_par (i := 9) (j := 10) rfl sc_span_of.nd rfl rfl (by decide) rfl rfl (pa_cons (pe_op op_add (pe_op op_mulW (pv 7) (pe_ix ix_seq (pv 1) pe_int (fun _ _ => rfl))) (pe_op op_mulW (pv 8) (pe_ix ix_seq (pv 1) pe_int (fun _ _ => rfl)))) (pa_cons (pe_op op_add (pe_op op_mulW (pv 7) (pe_ix ix_seq (pv 2) pe_int (fun _ _ => rfl))) (pe_op op_mulW (pv 8) (pe_ix ix_seq (pv 2) pe_int (fun _ _ => rfl)))) pa_nil)) (by rfl)) (pss_one (ps_ret (pe_tup (pa_cons (pe_call u_round_up.ok (hr.mono (by decide)) rfl u_round_up.g u_round_up.kp u_round_up.b .nil pass0 (pa_cons (pv 9) (pa_cons (pv 0) pa_nil))) (pa_cons (pe_op op_fdivX (pv 10) (pv 0)) (pa_cons (pv 4) (pa_cons (pe_op op_mulW (pv 7) (pe_op op_fdivX (pv 6) (pv 0))) pa_nil)))))))))))))), by
    obtain ⟨⟨b, p, q⟩, ⟨x, y, rfl, tx, ty, bp, bq, hb, hb2, hne⟩, k⟩ := h
    have tx : T2 H x p := tx
    have ty : T2 H y q := ty
    have hb : 0 < b := hb
    have hb2 : Bd 100 b := hb2
    obtain ⟨bp1, bp2⟩ := bp
    obtain ⟨bq1, bq2⟩ := bq
    have bp1 : Bd 210 p.1 := bp1
    have bp2 : Bd 210 p.2 := bp2
    have bq1 : Bd 210 q.1 := bq1
    have bq2 : Bd 210 q.2 := bq2
    have dw : Bd 211 (q.1 - p.1) := bq1.sub1 bp1
    have du : Bd 211 (q.2 - p.2) := bq2.sub1 bp2
    have hg : (Int.gcd (q.1 - p.1) (q.2 - p.2) : Int) ≠ 0 := by
      intro z
      have z : Int.gcd (q.1 - p.1) (q.2 - p.2) = 0 := by omega
      rw [Int.gcd_eq_zero_iff] at z
      refine hne (Prod.ext ?_ ?_)
      · show p.1 = q.1
        omega
      · show p.2 = q.2
        omega
    have dg : Bd 212 (Int.gcd (q.1 - p.1) (q.2 - p.2) : Int) := by
      by_cases hw : q.1 - p.1 = 0
      · rw [hw, Int.gcd_zero_left]
        exact (Bd.of_le du (by omega)).mono (by decide)
      · have := Nat.le_of_dvd (by omega) (Int.gcd_dvd_natAbs_left (q.1 - p.1) (q.2 - p.2))
        exact (Bd.of_le dw (by omega)).mono (by decide)
    have dwf : Bd 211 ((q.1 - p.1).fdiv (Int.gcd (q.1 - p.1) (q.2 - p.2))) := dw.fdiv
    have duf : Bd 211 ((q.2 - p.2).fdiv (Int.gcd (q.1 - p.1) (q.2 - p.2))) := du.fdiv
    refine q_parV (ea2 (ev_op (ev_x (ev_var rfl) ty) (ev_x (ev_var rfl) tx) rv_I0) (ev_op (ev_y (ev_var rfl) ty) (ev_y (ev_var rfl) tx) rv_I0)) fun H1 e1 => ?_
    refine q_asg (ev_er (er_use (q.1 - p.1, q.2 - p.2) (ea2 (ev_var rfl) (ev_var rfl)) fun _ _ => rfl)) fun H2 e2 => ?_
    refine q_parV (ea2 (ev_op (ev_var rfl) (ev_var rfl) (rv_I (cdivB hg dg (by decide)))) (ev_op (ev_var rfl) (ev_var rfl) (rv_I (cdivB hg dg (by decide))))) fun H3 e3 => ?_
    have e13 := (e1.trans e2).trans e3
    have tx3 := mo_t2 _ _ _ _ e13 tx
    have ty3 := mo_t2 _ _ _ _ e13 ty
    generalize hwd : (q.1 - p.1).fdiv (Int.gcd (q.1 - p.1) (q.2 - p.2)) = wide at *
    generalize hup : (q.2 - p.2).fdiv (Int.gcd (q.1 - p.1) (q.2 - p.2)) = up at *
    refine q_asg (v := .int (wide * p.2 - up * p.1)) (ev_op (ev_op (ev_var rfl) (ev_y (ev_var rfl) tx3) (rv_I (cmulB dwf bp2 (by decide)))) (ev_op (ev_var rfl) (ev_x (ev_var rfl) tx3) (rv_I (cmulB duf bp1 (by decide)))) rv_I0) fun H4 e4 => ?_
    have dbs : Bd 1000 (wide * p.2 - up * p.1) := ((dwf.mul bp2).sub (duf.mul bp1)).mono (by decide)
    refine q_when (et_test (ev_op (ev_op (ev_var rfl) (ev_var rfl) (rv_I (show b ≠ 0 by omega))) ev_c (rv_ne rfl))) (fun hz H5 e5 => ?_) (fun hz H5 e5 => ?_)
    · have hz : (wide * p.2 - up * p.1).fmod b ≠ 0 := by simpa using hz
      refine s_ret ev_c fun H6 e6 => k _ _ (((e13.trans e4).trans e5).trans e6) ?_
      show TSp H6 .non (spanM b p q)
      rw [spanM]
      simp only [hwd, hup]
      rw [if_pos hz]
      exact rfl
    · have hz : ¬ (wide * p.2 - up * p.1).fmod b ≠ 0 := by simpa using hz
      have tx5 := mo_t2 _ _ _ _ (e4.trans e5) tx3
      have ty5 := mo_t2 _ _ _ _ (e4.trans e5) ty3
      refine q_asg2 (S := fun _ l r => l = .int (bezM wide up).1 ∧ r = .int (bezM wide up).2 ∧ Bd 1100 (bezM wide up).1 ∧ Bd 1100 (bezM wide up).2) ((er_use (wide, up) (ea2 (ev_var rfl) (ev_var rfl)) fun _ _ => ⟨rfl, dwf.mono (by decide), duf.mono (by decide)⟩).imp fun H6 v e6 ⟨r1, r2, r3⟩ => ⟨_, _, r1, rfl, rfl, r2, r3⟩) ?_
      rintro l r H6 e6 ⟨rfl, rfl, bl, br⟩
      have tx6 := mo_t2 _ _ _ _ e6 tx5
      have ty6 := mo_t2 _ _ _ _ e6 ty5
      refine q_parV (x := .int ((bezM wide up).1 * p.1 + (bezM wide up).2 * p.2)) (y := .int ((bezM wide up).1 * q.1 + (bezM wide up).2 * q.2)) (ea2 (ev_op (ev_op (ev_var rfl) (ev_x (ev_var rfl) tx6) (rv_I (cmulB bl bp1 (by decide)))) (ev_op (ev_var rfl) (ev_y (ev_var rfl) tx6) (rv_I (cmulB br bp2 (by decide)))) rv_I0)
        (ev_op (ev_op (ev_var rfl) (ev_x (ev_var rfl) ty6) (rv_I (cmulB bl bq1 (by decide)))) (ev_op (ev_var rfl) (ev_y (ev_var rfl) ty6) (rv_I (cmulB br bq2 (by decide)))) rv_I0)) fun H7 e7 => ?_
      have hb0 : b ≠ 0 := by omega
      refine s_retR (er_tn (vs := [_, _, _, _]) (ea_cons (ev_er (er_use (_, b) (ea2 (ev_var rfl) (ev_var rfl)) fun _ _ => ⟨rfl, hb0, hb2.mono (by decide)⟩)) (ea3 (ev_op (ev_var rfl) (ev_var rfl) (rv_I (cdivB hb0 hb2 (by decide)))) (ev_var rfl) (ev_op (ev_var rfl) (ev_op (ev_var rfl) (ev_var rfl) (rv_I (cdivB hb0 hb2 (by decide)))) (rv_I (cmulB bl dbs.fdiv (by decide)))))) (by simp)) fun u H8 e8 r => k _ _ (((((e13.trans e4).trans e5).trans e6).trans e7).trans e8) ?_
      show TSp H8 u (spanM b p q)
      rw [spanM]
      simp only [hwd, hup]
      rw [if_neg hz]
      exact r⟩)
def rowV : Option Int → V
  | none => .non
  | some i => .int i
def spSpanCnt : Sp := mkSp (α := Option Span × Option Int) (fun a H vs => ∃ x, vs = [x, rowV a.2] ∧ TSp H x a.1 ∧ ∀ s, a.1 = some s → Bd 3000 s.2.2.1) (fun a _ v => v = .int (spanCnt a.1 a.2))
theorem ev_min2 {ta tb : TE} {σ : L2.St} {H : Hp} {i j : Int} (ha : Ev ta σ H (.int i)) (hb : Ev tb σ H (.int j)) : Ev (tCB (fun xs H Q => ∃ i j, xs = [.int i, .int j] ∧ Q (.int (if j < i then j else i)) H) (tCons ta (tCons tb tNil))) σ H (.int (mn i j)) :=
  ev_cb (ea2 ha hb) fun H1 _ Q q => ⟨i, j, rfl, q H1 (Ex.refl H1)⟩
theorem ev_max2' {ta tb : TE} {σ : L2.St} {H : Hp} {i j : Int} (ha : Ev ta σ H (.int i)) (hb : Ev tb σ H (.int j)) : Ev (tCB (fun xs H Q => ∃ i j, xs = [.int i, .int j] ∧ Q (.int (if j > i then j else i)) H) (tCons ta (tCons tb tNil))) σ H (.int (mx i j)) :=
  ev_cb (ea2 ha hb) fun H1 _ Q q => ⟨i, j, rfl, q H1 (Ex.refl H1)⟩
theorem sc_span_count : FnScope ["span", "row", "low", "high", "rise", "base"] ["span", "row"] (defScope s_span_count) := ⟨rfl, rfl, rfl, by decide +kernel, rfl, by decide +kernel, by decide +kernel⟩
theorem ok_span_count (F : FnP K "span_count" s_span_count f fd) (N : Nm mg) {fL : Addr} {fdL : FuncData} (u_round_up : Use P w K mg base "round_up" 1 ["top", "bottom"] spRup fL fdL) : FnOk P w K mg base CX0 2 f fd ["span", "row"] spSpanCnt :=
  F.ok sc_span_count (len_mk fun _ _ _ ⟨_, h, _⟩ => by rw [h]; rfl) (fun cdv A outer s H vs Q E hr h => ⟨_, PSs.nox (pss_cons (ps_if (pt_cmpR op_isN (pv 0) pe_non (nomark _)) (pss_one (ps_ret pe_int)) pss_nil) (pss_cons (ps_asg (pv 0) (pg_tup rfl (pgs_cons (pg_name (i := 2) sc_span_count.nd rfl (Or.inl rfl)) (pgs_cons (pg_name (i := 3) sc_span_count.nd rfl (Or.inl rfl)) (pgs_cons (pg_name (i := 4) sc_span_count.nd rfl (Or.inl rfl)) (pgs_cons (pg_name (i := 5) sc_span_count.nd rfl (Or.inl rfl)) pgs_nil)))))) (pss_cons (ps_if (pt_cmpR op_notN (pv 1) pe_non (nomark _)) (pss_one (ps_if (pt_cmpR op_gt (pv 4) pe_int (nomark _)) (pss_one (ps_set (i := 3) sc_span_count.nd rfl (Or.inl rfl) (pe_callB (call_min2 rfl) (by rfl) N.min (by decide +kernel) (pa_cons (pv 3) (pa_cons (pe_op op_fdivX (pe_op op_sub (pv 1) (pv 5)) (pv 4)) pa_nil))))) (pss_one (ps_if (pt_cmpR op_lt (pv 4) pe_int (nomark _)) (pss_one (ps_set (i := 2) sc_span_count.nd rfl (Or.inl rfl) (pe_callB (call_max2 rfl) (by rfl) N.max (by decide +kernel) (pa_cons (pv 2) (pa_cons (pe_call u_round_up.ok (hr.mono (by decide)) rfl u_round_up.g u_round_up.kp u_round_up.b .nil pass0 (pa_cons (pe_op op_sub (pv 5) (pv 1)) (pa_cons (pe_un un_neg (pv 4)) pa_nil))) pa_nil))))) (pss_one (ps_if (pt_cmpR op_gt (pv 5) (pv 1) (nomark _)) (pss_one (ps_ret pe_int)) pss_nil)))))) pss_nil) (pss_one (ps_ret (pe_callB (call_max2 rfl) (by rfl) N.max (by decide +kernel) (pa_cons pe_int (pa_cons (pe_op op_add (pe_op op_sub (pv 3) (pv 2)) pe_int) pa_nil)))))))), by
    obtain ⟨⟨o, row⟩, ⟨x, rfl, hx, hbd⟩, k⟩ := h
    refine q_when (b := o.isNone) ?_ (fun hz H1 e1 => ?_) (fun hz H1 e1 => ?_)
    · cases o with
      | none =>
        cases hx
        exact et_test (ev_op (ev_var rfl) ev_c fun H1 _ Q q => ⟨rfl, q H1 (Ex.refl H1)⟩)
      | some s =>
        obtain ⟨a, rfl, _⟩ := hx
        exact et_test (ev_op (ev_var rfl) ev_c fun H1 _ Q q => ⟨rfl, q H1 (Ex.refl H1)⟩)
    · obtain rfl : o = none := by simpa using hz
      exact s_ret ev_c fun H2 e2 => k _ _ (e1.trans e2) rfl
    · obtain ⟨⟨lo, hi, rise, bs⟩, rfl⟩ : ∃ s, o = some s := by
        cases o with
        | none => cases hz
        | some s => exact ⟨s, rfl⟩
      obtain ⟨a, rfl, ha⟩ := hx
      have hrb : Bd 3000 rise := hbd _ rfl
      refine q_tup4 (ev_var (i := 0) rfl) (mo_tn _ _ _ _ e1 ⟨a, rfl, ha⟩) fun H2 e2 => ?_
      have e12 := e1.trans e2
      cases row with
      | none =>
        refine q_when (b := false) (et_test (ev_op (ev_var rfl) ev_c fun H1 _ Q q => ⟨rfl, q H1 (Ex.refl H1)⟩)) (fun z => by cases z) (fun _ H3 e3 => ?_)
        exact s_ret (ev_max2' ev_c (ev_op (ev_op (ev_var rfl) (ev_var rfl) rv_I0) ev_c rv_I0)) fun H4 e4 => k _ _ ((e12.trans e3).trans e4) rfl
      | some r =>
        refine q_when (b := true) (et_test (ev_op (ev_var rfl) ev_c fun H1 _ Q q => ⟨rfl, q H1 (Ex.refl H1)⟩)) (fun _ H3 e3 => ?_) (fun z => by cases z)
        refine s_if (et_test (ev_op (ev_var rfl) ev_c rv_I0)) (fun h H4 e4 => ?_) (fun h H4 e4 => ?_)
        · have h : rise > 0 := of_decide_eq_true h
          have hr0 : rise ≠ 0 := by omega
          refine s_asg (ev_min2 (ev_var rfl) (ev_op (ev_op (ev_var rfl) (ev_var rfl) rv_I0) (ev_var rfl) (rv_I (cdivB hr0 hrb (by decide))))) fun H5 e5 => ?_
          refine s_ret (ev_max2' ev_c (ev_op (ev_op (ev_var rfl) (ev_var rfl) rv_I0) ev_c rv_I0)) fun H6 e6 => k _ _ ((((e12.trans e3).trans e4).trans e5).trans e6) ?_
          show V.int _ = V.int (spanCnt (some (lo, hi, rise, bs)) (some r))
          rw [spanCnt, if_pos h]
        · have h : ¬ rise > 0 := of_decide_eq_false h
          refine s_if (et_test (ev_op (ev_var rfl) ev_c rv_I0)) (fun h2 H5 e5 => ?_) (fun h2 H5 e5 => ?_)
          · have h2 : rise < 0 := of_decide_eq_true h2
            have hrn : -rise ≠ 0 := by omega
            refine s_asg (ev_max2' (ev_var rfl) (ev_er (er_use (bs - r, -rise) (ea2 (ev_op (ev_var rfl) (ev_var rfl) rv_I0) (ev_un (ev_var rfl) ru_neg)) fun _ _ => ⟨rfl, hrn, hrb.neg⟩))) fun H6 e6 => ?_
            refine s_ret (ev_max2' ev_c (ev_op (ev_op (ev_var rfl) (ev_var rfl) rv_I0) ev_c rv_I0)) fun H7 e7 => k _ _ (((((e12.trans e3).trans e4).trans e5).trans e6).trans e7) ?_
            show V.int _ = V.int (spanCnt (some (lo, hi, rise, bs)) (some r))
            rw [spanCnt, if_neg h, if_pos h2]
          · have h2 : ¬ rise < 0 := of_decide_eq_false h2
            refine s_when (et_test (ev_op (ev_var rfl) (ev_var rfl) rv_I0)) (fun h3 H6 e6 => ?_) (fun h3 H6 e6 => ?_)
            · have h3 : bs > r := of_decide_eq_true h3
              refine s_ret ev_c fun H7 e7 => k _ _ (((((e12.trans e3).trans e4).trans e5).trans e6).trans e7) ?_
              show V.int _ = V.int (spanCnt (some (lo, hi, rise, bs)) (some r))
              rw [spanCnt, if_neg h, if_neg h2, if_pos h3]
            · have h3 : ¬ bs > r := of_decide_eq_false h3
              refine s_ret (ev_max2' ev_c (ev_op (ev_op (ev_var rfl) (ev_var rfl) rv_I0) ev_c rv_I0)) fun H7 e7 => k _ _ (((((e12.trans e3).trans e4).trans e5).trans e6).trans e7) ?_
              show V.int _ = V.int (spanCnt (some (lo, hi, rise, bs)) (some r))
              rw [spanCnt, if_neg h, if_neg h2, if_neg h3]⟩)
end
end GF
set_option Elab.async false
set_option linter.all false
set_option maxRecDepth 100000
set_option maxHeartbeats 4000000
set_option exponentiation.threshold 100000
namespace GF
open PySem PySem.Spec PyProof.Rows L2 Evl
theorem ex_hole {H H' : Hp} {p : Addr} (e : Ex H H') (h : H p = none) : Ex H (fun a => if a = p then none else H' a) := fun a o ha => by
  show (if a = p then none else H' a) = some o
  rw [if_neg (ne_of_none ha h)]
  exact e a o ha
theorem ex_unhole {H2 : Hp} {p : Addr} : Ex (fun a => if a = p then none else H2 a) H2 := fun a o ha => by
  have ha : (if a = p then none else H2 a) = some o := ha
  by_cases h : a = p
  · rw [if_pos h] at ha
    cases ha
  · rw [if_neg h] at ha
    exact ha
theorem t2_fun {H : Hp} {v : V} {p q : Pt} (h : T2 H v p) (g : T2 H v q) : p = q := by
  obtain ⟨a, rfl, h⟩ := h
  obtain ⟨b, e, g⟩ := g
  cases e
  rw [h] at g
  simp at g
  exact Prod.ext g.1 g.2
theorem tpp_fun {H : Hp} {v : V} {p q : PP} (h : TPP H v p) (g : TPP H v q) : p = q := by
  obtain ⟨a, x, y, rfl, h1, h2, h3⟩ := h
  obtain ⟨b, z, u, e, g1, g2, g3⟩ := g
  cases e
  rw [h1] at g1
  simp at g1
  obtain ⟨rfl, rfl⟩ := g1
  exact Prod.ext (t2_fun h2 g2) (t2_fun h3 g3)
open Classical in
noncomputable def datPP (H : Hp) (a : Addr) : PP := if h : ∃ q, TPP H (.ref a) q then choose h else ((0, 0), (0, 0))
theorem dat_eq {H : Hp} {a : Addr} {q : PP} (h : TPP H (.ref a) q) : datPP H a = q := by
  have hx : ∃ q, TPP H (.ref a) q := ⟨q, h⟩
  unfold datPP
  rw [dif_pos hx]
  exact tpp_fun (Classical.choose_spec hx) h
theorem refs_of {H : Hp} : ∀ {vs : List V} {ps : List PP}, All2 (TPP H) vs ps → ∃ as : List Addr, vs = as.map V.ref ∧ as.map (datPP H) = ps ∧ ∀ (i : Nat) (b : Addr) (q : PP), as[i]? = some b → ps[i]? = some q → TPP H (.ref b) q
  | vs, [], h => ⟨[], All2.nil_inv h, rfl, fun i b q e => by simp at e⟩
  | vs, p :: ps, h => by
    obtain ⟨v, ws, rfl, h1, h2⟩ := h.uncons
    obtain ⟨as, rfl, h4, h5⟩ := refs_of h2
    have h1' := h1
    obtain ⟨a, x, y, rfl, _⟩ := h1'
    refine ⟨a :: as, rfl, by rw [List.map_cons, dat_eq h1, h4], fun i b q e1 e2 => ?_⟩
    cases i with
    | zero =>
      simp at e1 e2
      subst e1
      subst e2
      exact h1
    | succ n => exact h5 n b q (by simpa using e1) (by simpa using e2)
theorem zip_map_snd {α β : Type} : ∀ (xs : List α) (ys : List β), xs.length = ys.length → (xs.zip ys).map Prod.snd = ys
  | [], [], _ => rfl
  | [], _ :: _, h => by simp at h
  | _ :: _, [], h => by simp at h
  | x :: xs, y :: ys, h => by rw [List.zip_cons_cons, List.map_cons, zip_map_snd xs ys (by simpa using h)]
theorem sort_data {H : Hp} {as bs : List Addr} {ps : List PP} (h1 : as.map (datPP H) = ps) (h2 : ∀ (i : Nat) (b : Addr) (q : PP), as[i]? = some b → ps[i]? = some q → TPP H (.ref b) q) (hs : SortedBy (ps.map keyPP) as bs) :
    StSort keyPP ps (bs.map (datPP H)) ∧ All2 (TPP H) (bs.map V.ref) (bs.map (datPP H)) := by
  obtain ⟨qs, q1, rfl, q3, q4⟩ := hs
  have hl : as.length = ps.length := by rw [← h1, List.length_map]
  have hk : ∀ p ∈ (ps.map keyPP).zip as, p.1 = keyPP (datPP H p.2) ∧ TPP H (.ref p.2) (datPP H p.2) := fun p hp => by
    obtain ⟨i, hi, e⟩ := List.mem_iff_getElem.mp hp
    have e2 : ((ps.map keyPP).zip as)[i]? = some (p.1, p.2) := by rw [List.getElem?_eq_getElem hi, e]
    rw [List.getElem?_zip_eq_some, List.getElem?_map] at e2
    cases e3 : ps[i]? with
    | none =>
      rw [e3] at e2
      simp at e2
    | some q =>
      rw [e3] at e2
      have t := h2 i p.2 q e2.2 e3
      rw [dat_eq t]
      have e4 : some (keyPP q) = some p.1 := e2.1
      exact ⟨(Option.some.inj e4).symm, t⟩
  have hq : ∀ p ∈ qs, p.1 = keyPP (datPP H p.2) ∧ TPP H (.ref p.2) (datPP H p.2) := fun p hp => hk p (q1.mem_iff.mp hp)
  have hm : ((ps.map keyPP).zip as).map (fun p => datPP H p.2) = ps := by
    have : ((ps.map keyPP).zip as).map (fun p => datPP H p.2) = (((ps.map keyPP).zip as).map Prod.snd).map (datPP H) := by rw [List.map_map]; rfl
    rw [this, zip_map_snd _ _ (by rw [List.length_map, hl]), h1]
  have eb : (qs.map Prod.snd).map (datPP H) = qs.map fun p => datPP H p.2 := by rw [List.map_map]; rfl
  refine ⟨⟨?_, ?_, fun c => ?_⟩, ?_⟩
  · rw [eb, ← hm]
    exact q1.map _
  · rw [eb, List.pairwise_map]
    refine List.Pairwise.imp_of_mem (fun {p q} hp hq' h => ?_) q3
    rw [← (hq p hp).1, ← (hq q hq').1]
    exact h
  · have hc : ∀ (l : List (Int × Addr)), (∀ p ∈ l, p.1 = keyPP (datPP H p.2)) → (l.map fun p => datPP H p.2).filter (fun a => keyPP a == c) = (l.filter fun p => p.1 == c).map fun p => datPP H p.2 := fun l hl => by
      rw [List.filter_map]
      congr 1
      refine List.filter_congr fun p hp => ?_
      show (keyPP (datPP H p.2) == c) = _
      rw [← hl p hp]
    rw [eb, hc qs fun p hp => (hq p hp).1, q4, ← hc _ fun p hp => (hk p hp).1, hm]
  · refine ⟨by simp, fun i v q e1 e2 => ?_⟩
    rw [List.getElem?_map] at e1 e2
    cases e3 : (qs.map Prod.snd)[i]? with
    | none =>
      rw [e3] at e1
      cases e1
    | some b =>
      rw [e3] at e1 e2
      cases e1
      cases e2
      have hb := List.mem_of_getElem? e3
      obtain ⟨p, hp, rfl⟩ := List.mem_map.mp hb
      exact (hq p hp).2
section
variable {P : Program} {w : World} {K : PySem.W.Frag} {mg : Str → Option Value} {base : Heap} {f : Addr} {fd : FuncData}
def spLow : Sp := fun vs H Q _ => ∃ v q, vs = [v] ∧ TPP H v q ∧ Q (.int (keyPP q)) H
theorem sc_low_height : FnScope ["pair"] ["pair"] (defScope s_low_height) := ⟨rfl, rfl, rfl, by decide +kernel, rfl, by decide +kernel, by decide +kernel⟩
theorem ok_low_height (F : FnP K "low_height" s_low_height f fd) : FnOk P w K mg base CX0 1 f fd ["pair"] spLow :=
  F.ok sc_low_height (fun _ _ _ _ ⟨_, _, h, _⟩ => by rw [h]; rfl) (fun cdv A outer s H vs Q E hr h => ⟨_, PSs.nox (pss_one (ps_ret (pe_ix ix_seq (pe_ix ix_seq (pv 0) pe_int (fun _ _ => rfl)) pe_int (fun _ _ => rfl)))), by
    obtain ⟨v, q, rfl, ⟨a, x, y, rfl, h1, ⟨b, rfl, h2⟩, h3⟩, k⟩ := h
    exact ⟨_, rfl, Or.inr (Or.inl ⟨a, _, 0, .ref b, rfl, rfl, st_of h1, rfl, Or.inr (Or.inl ⟨b, _, 1, _, rfl, rfl, st_of h2, rfl, k⟩)⟩)⟩⟩)
def TE5 (H : Hp) (v : V) (e : Edge) : Prop := TN H v [.int e.1, .int e.2.1, .int e.2.2.1, .int e.2.2.2.1, .int e.2.2.2.2]
theorem mt_e5 : MoT TE5 := fun _ _ _ _ e h => mt_tn _ _ _ _ e h
def optV : Option Int → V
  | none => .non
  | some i => .int i
theorem edges_step (b : Int) : ∀ (S : List PP) (i : Nat) (q : PP) (fst : Option Int), S[i]? = some q → ∃ f2, edgesGo b fst S = (edgesGo b fst S).take i ++ edgesGo b f2 (S.drop i) ∧ (edgesGo b fst S).take (i + 1) = (edgesGo b fst S).take i ++ [edgeOf b f2 q] ∧ (i = 0 → f2 = fst) ∧ ∀ j, i = j + 1 → ∃ q', S[j]? = some q' ∧ f2 = some (q'.2.2.fdiv b + 1)
  | [], i, q, fst, h => by simp at h
  | s :: S, 0, q, fst, h => by
    simp at h
    subst h
    exact ⟨fst, by simp [edgesGo], by simp [edgesGo], fun _ => rfl, fun j hj => by omega⟩
  | s :: S, i + 1, q, fst, h => by
    have h : S[i]? = some q := by simpa using h
    obtain ⟨f2, e1, e2, e3, e4⟩ := edges_step b S i q (some (s.2.2.fdiv b + 1)) h
    refine ⟨f2, ?_, ?_, fun z => by omega, fun j hj => ?_⟩
    · rw [edgesGo, List.take_succ_cons, List.drop_succ_cons, List.cons_append, ← e1]
    · rw [edgesGo, List.take_succ_cons, List.take_succ_cons, e2, List.cons_append]
    · have hj : i = j := by omega
      subst hj
      cases i with
      | zero => exact ⟨s, by simp, e3 rfl⟩
      | succ n =>
        obtain ⟨q', h1, h2⟩ := e4 n rfl
        exact ⟨q', by simpa using h1, h2⟩
theorem edges_len (b : Int) : ∀ (S : List PP) (fst : Option Int), (edgesGo b fst S).length = S.length
  | [], _ => rfl
  | s :: S, fst => by rw [edgesGo, List.length_cons, List.length_cons, edges_len b S]
def spEdges : Sp := mkSp (α := Int × List PP) (fun a H vs => ∃ v, vs = [.int a.1, v] ∧ LR TPP H v a.2 ∧ 0 < a.1 ∧ Bd 100 a.1 ∧ a.2.length ≤ 1000 ∧ ∀ q ∈ a.2, BdP 210 q.1 ∧ BdP 210 q.2) (fun a H v => LR TE5 H v (edgesM a.1 a.2))
theorem sc_edges_of : FnScope ["bottom", "pairs", "found", "first", "low", "high", "wide", "up"] ["bottom", "pairs"] (defScope s_edges_of) := ⟨rfl, rfl, rfl, by decide +kernel, rfl, by decide +kernel, by decide +kernel⟩
theorem ok_edges_of (F : FnP K "edges_of" s_edges_of f fd) (N : Nm mg) {f_low_height fL : Addr} {fdI fdL : FuncData} (u_low_height : Use P w K mg base "low_height" 1 ["pair"] spLow f_low_height fdI) (u_round_up : Use P w K mg base "round_up" 1 ["top", "bottom"] spRup fL fdL) : FnOk P w K mg base CX0 4 f fd ["bottom", "pairs"] spEdges :=
  F.ok sc_edges_of (len_mk fun _ _ _ ⟨_, h, _⟩ => by rw [h]; rfl) (fun cdv A outer s H vs Q E hr h => ⟨_, PSs.nox (pss_cons (ps_par (i := 2) (j := 3) rfl sc_edges_of.nd rfl rfl (by decide) rfl rfl (pa_cons (pe_lst pa_nil) (pa_cons pe_non pa_nil)) (by rfl)) (pss_cons (ps_for PassesOwn.never rfl (pi_list (pe_callBK (cr_sortedBy u_low_height.ok (room2 (hr.mono (by decide))) u_low_height.b) (by rfl) N.sorted (by decide +kernel) (pa_cons (pv 1) pa_nil) (pk_cons (pe_glob (v := .ref f_low_height) rfl u_low_height.g rfl) pk_nil))) (pg_tup rfl (pgs_cons (pg_name (i := 4) sc_edges_of.nd rfl (Or.inl rfl)) (pgs_cons (pg_name (i := 5) sc_edges_of.nd rfl (Or.inl rfl)) pgs_nil))) (pss_cons (ps_par (i := 6) (j := 7) rfl sc_edges_of.nd rfl rfl (by decide) rfl rfl (pa_cons (pe_op op_sub (pe_ix ix_seq (pv 5) pe_int (fun _ _ => rfl)) (pe_ix ix_seq (pv 4) pe_int (fun _ _ => rfl))) (pa_cons (pe_op op_sub (pe_ix ix_seq (pv 5) pe_int (fun _ _ => rfl)) (pe_ix ix_seq (pv 4) pe_int (fun _ _ => rfl))) pa_nil)) (by rfl)) (pss_cons (ps_set (i := 3) sc_edges_of.nd rfl (Or.inl rfl) (pe_ifExp (pt_cmpR op_isN (pv 3) pe_non (nomark _)) (pe_call u_round_up.ok (hr.mono (by decide)) rfl u_round_up.g u_round_up.kp u_round_up.b .nil pass0 (pa_cons (pe_ix ix_seq (pv 4) pe_int (fun _ _ => rfl)) (pa_cons (pv 0) pa_nil))) (pv 3))) (pss_cons (ps_expr (pe_bm PySem.F.plainAttrs_list PySem.F.slot_list_append PySem.F.type_list_append mt_append (pv 2) (pa_cons (pe_tup (pa_cons (pe_op op_mulW (pv 0) (pv 6)) (pa_cons (pe_op op_sub (pe_op op_mulW (pe_ix ix_seq (pv 4) pe_int (fun _ _ => rfl)) (pv 7)) (pe_op op_mulW (pe_ix ix_seq (pv 4) pe_int (fun _ _ => rfl)) (pv 6))) (pa_cons (pe_op op_mulW (pv 0) (pv 7)) (pa_cons (pv 3) (pa_cons (pe_op op_fdivX (pe_ix ix_seq (pv 5) pe_int (fun _ _ => rfl)) (pv 0)) pa_nil)))))) pa_nil))) (pss_one (ps_set (i := 3) sc_edges_of.nd rfl (Or.inl rfl) (pe_op op_add (pe_op op_fdivX (pe_ix ix_seq (pv 5) pe_int (fun _ _ => rfl)) (pv 0)) pe_int))))))) (pss_one (ps_ret (pv 2))))), by
    obtain ⟨⟨b, ps⟩, ⟨v, rfl, hl, hb, hb2, hz, hbd⟩, k⟩ := h
    have hl : LR TPP H v ps := hl
    have hb : 0 < b := hb
    have hb0 : b ≠ 0 := by omega
    have hb2 : Bd 100 b := hb2
    have hz : ps.length ≤ 1000 := hz
    refine ⟨by show 0 ≤ sizeLine; decide, fun Dl hD => ⟨_, _, rfl, ?_⟩⟩
    have e1 : Ex H (upd H Dl (.lst [])) := Ex.new hD
    have hl1 := mo_lr mo_tpp _ _ _ _ e1 hl
    obtain ⟨a, vs, rfl, l2, l3⟩ := hl1
    obtain ⟨as, rfl, r1, r2⟩ := refs_of l3
    refine ⟨_, rfl, a, as, ps.map keyPP, rfl, rfl, sq_of l2, by rw [List.length_map, ← r1, List.length_map], fun i b z h1 h2 => ?_, fun bs p hs hp => ?_⟩
    · rw [List.getElem?_map] at h2
      cases e : ps[i]? with
      | none =>
        rw [e] at h2
        cases h2
      | some q =>
        rw [e] at h2
        cases h2
        exact ⟨_, q, rfl, r2 i b q h1 e, rfl, rfl⟩
    obtain ⟨s1, s2⟩ := sort_data r1 r2 hs
    have hsm := sortM_eq keyPP s1
    rw [← hsm] at s2
    have hpD : p ≠ Dl := fun z => by
      rw [z, upd_same] at hp
      cases hp
    let H2 : Hp := upd (upd H Dl (.lst [])) p (.lst (bs.map V.ref))
    let B : Hp := fun x => if x = Dl then none else H2 x
    have eB : Ex H B := ex_hole (e1.trans (Ex.new hp)) hD
    have BD : B Dl = none := if_pos rfl
    have Bp : B p = some (.lst (bs.map V.ref)) := by
      show (if p = Dl then none else H2 p) = _
      rw [if_neg hpD]
      exact upd_same
    have hmem : ∀ q ∈ sortM keyPP ps, q ∈ ps := fun q hq => by
      rw [hsm] at hq
      exact s1.1.mem_iff.mp hq
    have s2B : All2 (TPP B) (bs.map V.ref) (sortM keyPP ps) := s2.mono fun v q h => by
      obtain ⟨c, x, y, h1, h2, ⟨c2, h3, h4⟩, ⟨c3, h5, h6⟩⟩ := h
      have up : ∀ (c : Addr) (xs : List V), upd H Dl (.lst []) c = some (.tup xs) → B c = some (.tup xs) := fun c xs hc => by
        have hcD : c ≠ Dl := fun z => by
          rw [z, upd_same] at hc
          cases hc
        show (if c = Dl then none else H2 c) = _
        rw [if_neg hcD]
        exact (Ex.new hp) c _ hc
      exact ⟨c, x, y, h1, up _ _ h2, ⟨c2, h3, up _ _ h4⟩, ⟨c3, h5, up _ _ h6⟩⟩
    have hSl : (sortM keyPP ps).length = bs.length := by rw [← s2.1, List.length_map]
    have hlen : (sortM keyPP ps).length = ps.length := by rw [hsm]; exact s1.1.length_eq
    refine ⟨p, rfl, ⟨bs.map V.ref, sq_of upd_same⟩, for_list (xs := bs.map V.ref) (fun i σ H' => Ex B H' ∧ ∃ (fo : Option Int) (x4 x5 x6 x7 : Option V) (acc : List V), σ = [some (.int b), some (.ref a), some (.ref Dl), some (optV fo), x4, x5, x6, x7] ∧ H' Dl = some (.lst acc) ∧ All2 (TE5 H') acc ((edgesM b ps).take i) ∧ (i = 0 → fo = none) ∧ ∀ j, i = j + 1 → ∃ q', (sortM keyPP ps)[j]? = some q' ∧ fo = some (q'.2.2.fdiv b + 1))
      ⟨ex_unhole, none, none, none, none, none, [], rfl, by show H2 Dl = _; exact (upd_ne (Ne.symm hpD)).trans upd_same, All2.nil, fun _ => rfl, fun j hj => by omega⟩ (fun i σ H' _ pv => sq_of (pv.1 _ _ Bp)) ?_ ?_⟩
    · rintro i u σ H3 hi ⟨e3, fo, x4, x5, x6, x7, acc, rfl, hacc, hA, hf0, hf1⟩
      obtain ⟨q, hq, tq⟩ := s2B.atV hi
      obtain ⟨f2, g1, g2, g3, g4⟩ := edges_step b (sortM keyPP ps) i q none hq
      have hfo : fo = f2 := by
        cases i with
        | zero => rw [hf0 rfl, g3 rfl]
        | succ j =>
          obtain ⟨q1, c1, c2⟩ := hf1 j rfl
          obtain ⟨q2, c3, c4⟩ := g4 j rfl
          rw [c1] at c3
          cases c3
          rw [c2, c4]
      have hqb := hbd q (hmem q (List.mem_of_getElem? hq))
      obtain ⟨c, lo, hi2, rfl, h1, t1, t2⟩ := mo_tpp _ _ _ _ e3 tq
      refine ⟨c, [lo, hi2], rfl, st_of h1, rfl, lo, [hi2], rfl, hi2, [], rfl, rfl, ?_⟩
      obtain ⟨⟨b1, b2⟩, b3, b4⟩ := hqb
      have dw : Bd 211 (q.2.1 - q.1.1) := b3.sub1 b1
      have du : Bd 211 (q.2.2 - q.1.2) := b4.sub1 b2
      refine q_parV (ea2 (ev_op (ev_x (ev_var rfl) t2) (ev_x (ev_var rfl) t1) rv_I0) (ev_op (ev_y (ev_var rfl) t2) (ev_y (ev_var rfl) t1) rv_I0)) fun H4 e4 => ?_
      have t1 := mo_t2 _ _ _ _ e4 t1
      have t2 := mo_t2 _ _ _ _ e4 t2
      refine q_asg (v := .int (fo.getD (rup q.1.2 b))) (ev_if (b := fo.isNone) ?_ (fun hn => ?_) (fun hn => ?_)) fun H5 e5 => ?_
      · cases fo <;> exact et_test (ev_op (ev_var rfl) ev_c fun H1 _ Q q => ⟨rfl, q H1 (Ex.refl H1)⟩)
      · obtain rfl : fo = none := by simpa using hn
        exact ev_er (er_use (q.1.2, b) (ea2 (ev_y (ev_var rfl) t1) (ev_var rfl)) fun _ _ => ⟨rfl, hb0, hb2.mono (by decide)⟩)
      · cases fo with
        | none => cases hn
        | some i => exact ev_var rfl
      have t1 := mo_t2 _ _ _ _ e5 t1
      have t2 := mo_t2 _ _ _ _ e5 t2
      refine q_appU (ys := [.int (edgeOf b fo q).1, .int (edgeOf b fo q).2.1, .int (edgeOf b fo q).2.2.1, .int (edgeOf b fo q).2.2.2.1, .int (edgeOf b fo q).2.2.2.2]) ((e4.trans e5) _ _ hacc) (ev_var rfl) (eu_tup (ea_cons (ev_op (ev_var rfl) (ev_var rfl) (rv_I (cmulB hb2 dw (by decide)))) (ea_cons (ev_op (ev_op (ev_x (ev_var rfl) t1) (ev_var rfl) (rv_I (cmulB b1 du (by decide)))) (ev_op (ev_y (ev_var rfl) t1) (ev_var rfl) (rv_I (cmulB b2 dw (by decide)))) rv_I0)
        (ea3 (ev_op (ev_var rfl) (ev_var rfl) (rv_I (cmulB hb2 du (by decide)))) (ev_var rfl) (ev_op (ev_y (ev_var rfl) t2) (ev_var rfl) (rv_I (cdivB hb0 hb2 (by decide))))))) (by simp)) ?_ fun pn H6 hpn e6 h6 => ?_
      · have := hA.1
        rw [List.length_take] at this
        have hi3 := (List.getElem?_eq_some_iff.mp hq).1
        omega
      have hD6 : H6 Dl = some (.lst acc) := e6 _ _ ((e4.trans e5) _ _ hacc)
      have e36 := (e4.trans e5).trans e6
      have eB6 : Ex B (upd H6 Dl (.lst (acc ++ [.ref pn]))) := Ex.mut (e3.trans e36) BD
      have t2' := mt_t2 _ _ _ _ (TupUp.lst (o := .lst (acc ++ [.ref pn])) hD6) (mo_t2 _ _ _ _ e6 t2)
      refine s_asg (ev_op (ev_op (ev_y (ev_var rfl) t2') (ev_var rfl) (rv_I (cdivB hb0 hb2 (by decide)))) ev_c rv_I0) fun H7 e7 => ⟨eB6.trans e7, some (q.2.2.fdiv b + 1), _, _, _, _, acc ++ [.ref pn], rfl, e7 _ _ upd_same, ?_, fun z => by omega, fun j hj => ?_⟩
      · rw [show (edgesM b ps).take (i + 1) = (edgesM b ps).take i ++ [edgeOf b fo q] by rw [hfo]; exact g2]
        refine All2.app (hA.mono fun v x h => mt_e5.mo _ _ _ _ e7 (mt_e5 _ _ _ _ (TupUp.lst hD6) (mt_e5.mo _ _ _ _ e36 h))) (All2.one ⟨pn, rfl, e7 _ _ ?_⟩)
        rw [upd_ne fun z => by rw [z, hD6] at h6; cases h6]
        exact h6
      · obtain rfl : i = j := by omega
        exact ⟨q, hq, rfl⟩
    · rintro σ H3 ⟨e3, fo, x4, x5, x6, x7, acc, rfl, hacc, hA, hf0, hf1⟩
      refine ⟨_, rfl, k _ _ (eB.trans e3) ⟨Dl, acc, rfl, hacc, ?_⟩⟩
      rw [List.length_map, ← hSl, List.take_of_length_le (by unfold edgesM; rw [edges_len]; exact Nat.le_refl _)] at hA
      exact hA⟩)
def spEdgeSum : Sp := mkSp (α := Edge × Option Int × Int) (fun a H vs => ∃ v, vs = [v, rowV a.2.1, .int a.2.2] ∧ TE5 H v a.1 ∧ (a.2.2 = 1 ∨ a.2.2 = -1) ∧ Bd 700 a.1.1 ∧ Bd 700 a.1.2.1 ∧ Bd 700 a.1.2.2.1 ∧ Bd 700 a.1.2.2.2.1 ∧ Bd 700 a.1.2.2.2.2 ∧ 0 < a.1.2.2.1 ∧ ∀ r, a.2.1 = some r → Bd 700 r) (fun a _ v => v = .int (edgeSumM a.1 a.2.1 a.2.2))
theorem mn_bd {n : Nat} {i j : Int} (h : Bd n i) (g : Bd n j) : Bd n (mn i j) := by
  unfold mn
  split
  · exact g
  · exact h
theorem sc_edge_sum : FnScope ["edge", "row", "sign", "step", "start", "below", "first", "last"] ["edge", "row", "sign"] (defScope s_edge_sum) := ⟨rfl, rfl, rfl, by decide +kernel, rfl, by decide +kernel, by decide +kernel⟩
theorem ok_edge_sum (F : FnP K "edge_sum" s_edge_sum f fd) (N : Nm mg) {fI : Addr} {fdI : FuncData} (u_floor_sum : Use P w K mg base "floor_sum" 1 ["many", "step", "start", "bottom"] spFloor fI fdI) : FnOk P w K mg base CX0 2 f fd ["edge", "row", "sign"] spEdgeSum :=
  F.ok sc_edge_sum (len_mk fun _ _ _ ⟨_, h, _⟩ => by rw [h]; rfl) (fun cdv A outer s H vs Q E hr h => ⟨_, PSs.nox (pss_cons (ps_asg (pv 0) (pg_tup rfl (pgs_cons (pg_name (i := 3) sc_edge_sum.nd rfl (Or.inl rfl)) (pgs_cons (pg_name (i := 4) sc_edge_sum.nd rfl (Or.inl rfl)) (pgs_cons (pg_name (i := 5) sc_edge_sum.nd rfl (Or.inl rfl)) (pgs_cons (pg_name (i := 6) sc_edge_sum.nd rfl (Or.inl rfl)) (pgs_cons (pg_name (i := 7) sc_edge_sum.nd rfl (Or.inl rfl)) pgs_nil))))))) (pss_cons (ps_set (i := 7) sc_edge_sum.nd rfl (Or.inl rfl) (pe_ifExp (pt_cmpR op_isN (pv 1) pe_non (nomark _)) (pv 7) (pe_callB (call_min2 rfl) (by rfl) N.min (by decide +kernel) (pa_cons (pv 7) (pa_cons (pv 1) pa_nil))))) (pss_one (ps_ret (pe_call u_floor_sum.ok (hr.mono (by decide)) rfl u_floor_sum.g u_floor_sum.kp u_floor_sum.b .nil pass0 (pa_cons (pe_op op_add (pe_op op_sub (pv 7) (pv 6)) pe_int) (pa_cons (pe_op op_mulW (pv 2) (pv 3)) (pa_cons (pe_op op_mulW (pv 2) (pe_op op_add (pv 4) (pe_op op_mulW (pv 3) (pv 6)))) (pa_cons (pv 5) pa_nil))))))))), by
    obtain ⟨⟨⟨st, sa, be, fi, la⟩, row, sg⟩, ⟨v, rfl, te, hsg, c1, c2, c3, c4, c5, hpos, hrow⟩, k⟩ := h
    have c1 : Bd 700 st := c1
    have c2 : Bd 700 sa := c2
    have c3 : Bd 700 be := c3
    have c4 : Bd 700 fi := c4
    have c5 : Bd 700 la := c5
    have hsb : Bd 1 sg := by
      have hsg : sg = 1 ∨ sg = -1 := hsg
      rcases hsg with rfl | rfl
      · exact Bd.one
      · exact Bd.one.neg
    refine q_tup5 (ev_var rfl) te fun H1 e1 => ?_
    have hl : ∃ l, l = (match row with | none => la | some r => mn la r) ∧ Bd 700 l := by
      cases row with
      | none => exact ⟨la, rfl, c5⟩
      | some r => exact ⟨_, rfl, mn_bd c5 (hrow r rfl)⟩
    obtain ⟨l, hl, cl⟩ := hl
    refine q_asg (v := .int l) (ev_if (b := row.isNone) ?_ (fun hn => ?_) (fun hn => ?_)) fun H2 e2 => ?_
    · cases row <;> exact et_test (ev_op (ev_var rfl) ev_c fun H1 _ Q q => ⟨rfl, q H1 (Ex.refl H1)⟩)
    · obtain rfl : row = none := by simpa using hn
      subst hl
      exact ev_var rfl
    · cases row with
      | none => cases hn
      | some r =>
        subst hl
        exact ev_min2 (ev_var rfl) (ev_var rfl)
    refine s_retR (er_use (l - fi + 1, sg * st, sg * (sa + st * fi), be) (ea_cons (ev_op (ev_op (ev_var rfl) (ev_var rfl) rv_I0) ev_c rv_I0) (ea3 (ev_op (ev_var rfl) (ev_var rfl) (rv_I (cmulB hsb c1 (by decide)))) (ev_op (ev_var rfl) (ev_op (ev_var rfl) (ev_op (ev_var rfl) (ev_var rfl) (rv_I (cmulB c1 c4 (by decide)))) rv_I0) (rv_I (cmulB hsb (c2.add (c1.mul c4)) (by decide)))) (ev_var rfl))) fun H3 e3 => ⟨rfl, ((cl.sub c4).add Bd.one).mono (by decide), (hsb.mul c1).mono (by decide), (hsb.mul (c2.add (c1.mul c4))).mono (by decide), c3.mono (by decide), hpos⟩) fun u H3 e3 r => k _ _ ((e1.trans e2).trans e3) ?_
    show u = V.int (edgeSumM (st, sa, be, fi, la) row sg)
    subst hl
    cases row <;> exact r⟩)
end
end GF
set_option Elab.async false
set_option linter.all false
/-! The outline in plain Lean. -/
namespace GF
def scaleM (size : Int) (ps : List P2) : List P2 := ps.map fun p => (p.1 * size, p.2 * size)
def stakeM (b : Int) (cs : List P2) (n : Nat) (row : Option Int) : Bool := (decide ((at_ cs n).1.fmod b = 0) && decide (0 = (at_ cs n).2.fmod b)) && (match row with
  | none => true
  | some r => decide ((at_ cs n).2 ≤ r * b))
def pairAt (cs : List P2) (n : Nat) : PP := (pairsM cs).getD n ((0, 0), (0, 0))
def spanAt (b : Int) (cs : List P2) (n : Nat) : Option Span := spanM b (pairAt cs n).1 (pairAt cs n).2
def sideM (b : Int) (cs : List P2) (n : Nat) : Int := if cs.length < 3 then (if stakeM b cs n none = true then 1 else 0) else spanCnt (spanAt b cs n) none
def ptle (p q : P2) : Prop := ptlt p q ∨ p = q
instance : DecidableRel ptle := fun p q => by unfold ptle; exact inferInstance
def turnsM (cs : List P2) (s : P2) : List Int := (pairsM cs).map fun q => turnM q.1 q.2 s
def holdsM (b : Int) (cs : List P2) (ss : List Nat) (pt : P2) : Bool :=
  if cs.length < 3 then
    (if turnM (at_ cs 0) (at_ cs (cs.length - 1)) (pt.1 * b, pt.2 * b) ≠ 0 then false
    else if (decide (ptle (at_ cs 0) (pt.1 * b, pt.2 * b)) && decide (ptle (pt.1 * b, pt.2 * b) (at_ cs (cs.length - 1)))) = true then !(ss.any fun e => decide (at_ cs e = (pt.1 * b, pt.2 * b)))
    else false)
  else (turnsM cs (pt.1 * b, pt.2 * b)).all (fun t => decide (0 ≤ t)) && ss.all (fun e => decide ((turnsM cs (pt.1 * b, pt.2 * b)).getD e 0 > 0))
theorem pairs_len {cs : List P2} (h : 3 ≤ cs.length) : (pairsM cs).length = cs.length := by
  rw [pairsM, if_neg (by omega), List.length_zip, List.length_append, List.length_drop, List.length_take]
  omega
theorem pair_get {cs : List P2} {n : Nat} (h : n < (pairsM cs).length) : (pairsM cs)[n]? = some (pairAt cs n) := by
  unfold pairAt
  rw [List.getD_eq_getElem?_getD, List.getElem?_eq_getElem h]
  rfl
theorem pairAt_eq {cs : List P2} (h : 3 ≤ cs.length) {n : Nat} (hn : n < cs.length) : pairAt cs n = (at_ cs n, at_ cs ((n + 1) % cs.length)) := by
  unfold pairAt
  rw [List.getD_eq_getElem?_getD, pairsM, if_neg (by omega)]
  have e : (cs.zip (cs.drop 1 ++ cs.take 1))[n]? = some (at_ cs n, at_ cs ((n + 1) % cs.length)) := by
    rw [List.getElem?_zip_eq_some]
    refine ⟨at_get hn, ?_⟩
    by_cases h1 : n + 1 < cs.length
    · rw [List.getElem?_append_left (by rw [List.length_drop]; omega), List.getElem?_drop, Nat.mod_eq_of_lt h1, Nat.add_comm 1 n]
      exact at_get h1
    · have e1 : n + 1 = cs.length := by omega
      rw [List.getElem?_append_right (by rw [List.length_drop]; omega), List.length_drop, e1, Nat.mod_self, List.getElem?_take, if_pos (by omega)]
      have e2 : n - (cs.length - 1) = 0 := by omega
      rw [e2]
      exact at_get (by omega)
  rw [e]
  rfl
end GF
set_option Elab.async false
set_option linter.all false
set_option maxRecDepth 100000
set_option maxHeartbeats 4000000
set_option exponentiation.threshold 100000
namespace GF
open PySem PySem.Spec PyProof.Rows L2 Evl
/-- lists and tuples are kept -/
def LtUp (H H' : Hp) : Prop := (∀ a xs, H a = some (.lst xs) → H' a = some (.lst xs)) ∧ TupUp H H'
theorem Ex.lt {H H' : Hp} (e : Ex H H') : LtUp H H' := ⟨fun a xs h => e a _ h, Ex.tup e⟩
theorem LtUp.trans {H H1 H2 : Hp} (a : LtUp H H1) (b : LtUp H1 H2) : LtUp H H2 := ⟨fun x xs h => b.1 x xs (a.1 x xs h), fun x xs h => b.2 x xs (a.2 x xs h)⟩
theorem LtUp.ins {H : Hp} {o C dx : Addr} {fs : List (Str × V)} {u : HO} (h : H o = some (.ins C dx fs)) : LtUp H (upd H o u) := ⟨fun a xs ha => by
  rw [upd_ne fun z => by rw [z, h] at ha; cases ha]
  exact ha, fun a xs ha => by
  rw [upd_ne fun z => by rw [z, h] at ha; cases ha]
  exact ha⟩
theorem lt_lr {α : Type} {S : Hp → V → α → Prop} (m : MoT S) {H H' : Hp} (u : LtUp H H') {v : V} {xs : List α} (h : LR S H v xs) : LR S H' v xs := by
  obtain ⟨a, vs, h1, h2, h3⟩ := h
  exact ⟨a, vs, h1, u.1 _ _ h2, h3.mono fun v x => m _ _ _ _ u.2⟩
theorem rv_eqI {H : Hp} {i j : Int} : RV rEq (.int i) (.int j) H (.bl (decide (i = j))) := by
  have e : decide (V.int i = V.int j) = decide (i = j) := by simp
  rw [← e]
  exact rv_eq rfl
theorem rv_neI {H : Hp} {i j : Int} : RV rNe (.int i) (.int j) H (.bl (!decide (i = j))) := by
  have e : decide (V.int i = V.int j) = decide (i = j) := by simp
  rw [← e]
  exact rv_ne rfl
/-- a class whose objects are outlines -/
structure CF (K : PySem.W.Frag) (C : Addr) : Prop where
  cl : Cls K C
  nb : NoAttr K C "bottom"
  nc : NoAttr K C "corners"
  ns : NoAttr K C "shut"
  np : NoAttr K C "pairs"
def mths : List Str := ["is_corner_stake", "side_span", "side_stakes", "holds", "closed_below", "shut_below", "below"]
def OutAt (H : Hp) (o C : Addr) (b : Int) (cs : List P2) (ss : List Nat) : Prop := ∃ (dx : Addr) (fs : List (Str × V)) (vc vs vp : V), H o = some (.ins C dx fs) ∧ fs.lookup ("bottom" : Str) = some (.int b) ∧ fs.lookup ("corners" : Str) = some vc ∧ fs.lookup ("shut" : Str) = some vs ∧ fs.lookup ("pairs" : Str) = some vp ∧
  LR T2 H vc cs ∧ LR IsN H vs ss ∧ LR TPP H vp (pairsM cs) ∧ ∀ m ∈ mths, fs.lookup m = none
theorem mo_out {o C : Addr} {b : Int} {cs : List P2} {ss : List Nat} {H H' : Hp} (e : Ex H H') (h : OutAt H o C b cs ss) : OutAt H' o C b cs ss := by
  obtain ⟨dx, fs, vc, vs, vp, h1, h2, h3, h4, h5, h6, h7, h8, h9⟩ := h
  exact ⟨dx, fs, vc, vs, vp, e _ _ h1, h2, h3, h4, h5, mo_lr mo_t2 _ _ _ _ e h6, mo_lr mt_n.mo _ _ _ _ e h7, mo_lr mo_tpp _ _ _ _ e h8, h9⟩
theorem q_fldR {K : PySem.W.Frag} {tv ta : TE} {σ : L2.St} {H : Hp} {R : Hp → V → Prop} {f : Str} {o C dx : Addr} {fs : List (Str × V)} {tz : TS} {D : Ends} (h : ER tv σ H R) (ho : Ev ta σ H (.ref o)) (hi : H o = some (.ins C dx fs)) (c : Cls K C) (n : NoAttr K C f) (hl : fs.length < 1000) (mR : Mo R)
    (k : ∀ v H1, Ex H H1 → R H1 v → tz D σ (upd H1 o (.ins C dx (putF f v fs)))) : tSeq (sFld K ta tv f) tz D σ H :=
  h H (Ex.refl H) (fun y H1 => ta σ H1 fun x H2 => ∃ a C dx fs, x = .ref a ∧ H2 a = some (.ins C dx fs) ∧ Cls K C ∧ NoAttr K C f ∧ fs.length < 1000 ∧ tz D σ (upd H2 a (.ins C dx (putF f y fs)))) fun v H1 e1 r => ho H1 e1 _ fun H2 e2 => ⟨o, C, dx, fs, rfl, e2 _ _ (e1 _ _ hi), c, n, hl, k v H2 (e1.trans e2) (mR _ _ _ e2 r)⟩
theorem s_fldR {K : PySem.W.Frag} {tv ta : TE} {σ : L2.St} {H : Hp} {R : Hp → V → Prop} {f : Str} {o C dx : Addr} {fs : List (Str × V)} {D : Ends} (h : ER tv σ H R) (ho : Ev ta σ H (.ref o)) (hi : H o = some (.ins C dx fs)) (c : Cls K C) (n : NoAttr K C f) (hl : fs.length < 1000) (mR : Mo R)
    (k : ∀ v H1, Ex H H1 → R H1 v → D.nx σ (upd H1 o (.ins C dx (putF f v fs)))) : sFld K ta tv f D σ H :=
  h H (Ex.refl H) (fun y H1 => ta σ H1 fun x H2 => ∃ a C dx fs, x = .ref a ∧ H2 a = some (.ins C dx fs) ∧ Cls K C ∧ NoAttr K C f ∧ fs.length < 1000 ∧ D.nx σ (upd H2 a (.ins C dx (putF f y fs)))) fun v H1 e1 r => ho H1 e1 _ fun H2 e2 => ⟨o, C, dx, fs, rfl, e2 _ _ (e1 _ _ hi), c, n, hl, k v H2 (e1.trans e2) (mR _ _ _ e2 r)⟩
theorem ev_int {te : TE} {σ : L2.St} {H : Hp} {b : Bool} (h : Ev te σ H (.bl b)) : Ev (tCB (fun xs H Q => (∃ i, xs = [.int i] ∧ Q (.int i) H) ∨ ∃ k, xs = [.bl k] ∧ Q (.int (if k then 1 else 0)) H) (tCons te tNil)) σ H (.int (if b = true then 1 else 0)) :=
  ev_cb (ea1 h) fun H1 _ Q q => Or.inr ⟨b, rfl, q H1 (Ex.refl H1)⟩
theorem ev_intI {te : TE} {σ : L2.St} {H : Hp} {i : Int} (h : Ev te σ H (.int i)) : Ev (tCB (fun xs H Q => (∃ i, xs = [.int i] ∧ Q (.int i) H) ∨ ∃ k, xs = [.bl k] ∧ Q (.int (if k then 1 else 0)) H) (tCons te tNil)) σ H (.int i) :=
  ev_cb (ea1 h) fun H1 _ Q q => Or.inl ⟨i, rfl, q H1 (Ex.refl H1)⟩
section
variable {P : Program} {w : World} {K : PySem.W.Frag} {mg : Str → Option Value} {base : Heap} {f : Addr} {fd : FuncData}
/-! ### Outline.__init__ -/
def FenOk (q : Fen) : Prop := 0 < q.1 ∧ Bd 100 q.1 ∧ 1 ≤ q.2.1.length ∧ q.2.1.length ≤ 1000 ∧ ∀ p ∈ q.2.1, BdP 105 p
def spInit (K : PySem.W.Frag) : Sp := fun vs H Q _ => ∃ (o dx C : Addr) (B : Hp) (vf : V) (q : Fen) (size : Int), vs = [.ref o, vf, .int size] ∧ CF K C ∧ H o = some (.ins C dx []) ∧ B o = none ∧ Ex B H ∧ FenV H vf q ∧ FenOk q ∧ Bd 105 size ∧
  ∀ H' vc vs vp, Ex B H' → H' o = some (.ins C dx [("bottom", .int q.1), ("corners", vc), ("shut", vs), ("pairs", vp)]) → LR T2 H' vc (scaleM size q.2.1) → LR IsN H' vs q.2.2 → LR TPP H' vp (pairsM (scaleM size q.2.1)) → Q .non H'
theorem sc_Outline_init : FnScope ["self", "fence", "size", "x", "y"] ["self", "fence", "size"] (defScope s_Outline_init) := ⟨rfl, rfl, rfl, by decide +kernel, rfl, by decide +kernel, by decide +kernel⟩
theorem ok_Outline_init (F : FnM K "__init__" "Outline.__init__" s_Outline_init f fd) (N : Nm mg) {fI : Addr} {fdI : FuncData} (u_pairs_around : Use P w K mg base "pairs_around" 1 ["corners"] spPairs fI fdI) : FnOk P w K mg base CX0 2 f fd ["self", "fence", "size"] (spInit K) :=
  F.ok sc_Outline_init (fun _ _ _ _ ⟨_, _, _, _, _, _, _, h, _⟩ => by rw [h]; rfl) (fun cdv A outer s H vs Q E hr h => ⟨_, PSs.nox (pss_cons (ps_fld (pv 0) (pe_ix ix_seq (pv 1) pe_int (fun _ _ => rfl)) rfl) (pss_cons (ps_fld (pv 0) (pe_lc (own := [("x", 3), ("y", 4)]) rfl sc_Outline_init.nd (pi_list (pe_ix ix_seq (pv 1) pe_int (fun _ _ => rfl))) (blkOk_by (own := [("x", 3), ("y", 4)]) (N := ["self", "fence", "size", "x", "y"]) (sc := defScope s_Outline_init) (by decide +kernel)) (fun _ _ _ _ _ => (pg_tupK (K := K) (n := 2) rfl rfl (pgs_cons (pg_name (i := 3) sc_Outline_init.nd rfl (Or.inl rfl)) (pgs_cons (pg_name (i := 4) sc_Outline_init.nd rfl (Or.inl rfl)) pgs_nil)))) (fun _ _ _ _ _ => pts_nil) (fun _ _ _ _ _ => (pe_tup (pa_cons (pe_op op_mulW (pv 3) (pv 2)) (pa_cons (pe_op op_mulW (pv 4) (pv 2)) pa_nil))))) rfl) (pss_cons (ps_fld (pv 0) (pe_ix ix_seq (pv 1) pe_int (fun _ _ => rfl)) rfl) (pss_one (ps_fld (pv 0) (pe_call u_pairs_around.ok (hr.mono (by decide)) rfl u_pairs_around.g u_pairs_around.kp u_pairs_around.b .nil pass0 (pa_cons (pe_fld (pv 0) rfl) pa_nil)) rfl))))), by
    obtain ⟨o, dx, C, B, vf, q, size, rfl, cf, ho, hB, hBH, hf, ⟨q1, q2, q3, q4, q5⟩, hsz, k⟩ := h
    obtain ⟨x, y, ht, hx, hy⟩ := hf.tn
    refine q_fldR (er_is (ev_ixt (ev_var rfl) ht ev_c rfl)) (ev_var rfl) ho cf.cl cf.nb (by decide) mo_is fun v H1 e1 r => ?_
    cases r
    have h1 : H1 o = some (.ins C dx []) := e1 _ _ ho
    have lt1 := (Ex.lt e1).trans (LtUp.ins (u := .ins C dx [("bottom", .int q.1)]) h1)
    have B1 : Ex B (upd H1 o (.ins C dx [("bottom", .int q.1)])) := Ex.mut (hBH.trans e1) hB
    have ht1 := mt_tn _ _ _ _ lt1.2 ht
    have hx1 := lt_lr mt_t2 lt1 hx
    have hy1 := lt_lr mt_n lt1 hy
    refine q_fldR (R := fun H' v => LR T2 H' v (scaleM size q.2.1)) ?_ (ev_var rfl) upd_same cf.cl cf.nc (Nat.le_of_ble_eq_true rfl) ((mo_lr mo_t2).at _) fun vc H2 e2 rc => ?_
    · rw [scaleM, ← fil_true q.2.1]
      refine er_lc (S := T2) (S' := T2) (xs := q.2.1) (fun _ => true) (fun p : P2 => (p.1 * size, p.2 * size)) mo_t2 mt_t2 (er_ev (ev_ixt (ev_var rfl) ht1 ev_c rfl) fun H3 e3 => mo_lr mo_t2 _ _ _ _ e3 hx1) (by omega) fun p H3 hp e3 => tn_pair (A := Is (.int p.1)) (B := Is (.int p.2)) (fun v H4 e4 s => ⟨_, _, s, rfl, rfl⟩) (fun _ _ => rfl) fun y z H4 e4 ey ez => ?_
      cases ey
      cases ez
      have hbp := q5 p hp
      exact er_tn (ea2 (ev_op (ev_var rfl) (ev_var rfl) (rv_I (cmulB hbp.1 hsz (by decide)))) (ev_op (ev_var rfl) (ev_var rfl) (rv_I (cmulB hbp.2 hsz (by decide))))) (by simp)
    have h2 : H2 o = some (.ins C dx [("bottom", .int q.1)]) := e2 _ _ upd_same
    have lt2 := (Ex.lt e2).trans (LtUp.ins (u := .ins C dx [("bottom", .int q.1), ("corners", vc)]) h2)
    have B2 : Ex B (upd H2 o (.ins C dx [("bottom", .int q.1), ("corners", vc)])) := Ex.mut (B1.trans e2) hB
    have rc2 := lt_lr mt_t2 (LtUp.ins (u := .ins C dx [("bottom", .int q.1), ("corners", vc)]) h2) rc
    have ht2 := mt_tn _ _ _ _ lt2.2 ht1
    have hy2 := lt_lr mt_n lt2 hy1
    refine q_fldR (er_is (ev_ixt (ev_var rfl) ht2 ev_c rfl)) (ev_var rfl) upd_same cf.cl cf.ns (Nat.le_of_ble_eq_true rfl) mo_is fun v H3 e3 r => ?_
    cases r
    have h3 : H3 o = some (.ins C dx [("bottom", .int q.1), ("corners", vc)]) := e3 _ _ upd_same
    have lt3 := (Ex.lt e3).trans (LtUp.ins (u := .ins C dx [("bottom", .int q.1), ("corners", vc), ("shut", y)]) h3)
    have B3 : Ex B (upd H3 o (.ins C dx [("bottom", .int q.1), ("corners", vc), ("shut", y)])) := Ex.mut (B2.trans e3) hB
    have rc3 := lt_lr mt_t2 lt3 rc2
    have hy3 := lt_lr mt_n lt3 hy2
    have hlen : (scaleM size q.2.1).length = q.2.1.length := by rw [scaleM, List.length_map]
    refine s_fldR (R := fun H' v => LR TPP H' v (pairsM (scaleM size q.2.1))) (er_use (scaleM size q.2.1) (ea1 (ev_fld (ev_var rfl) upd_same cf.cl cf.nc rfl)) fun H4 e4 => ⟨vc, rfl, mo_lr mo_t2 _ _ _ _ e4 rc3, by omega, by omega⟩) (ev_var rfl) upd_same cf.cl cf.np (Nat.le_of_ble_eq_true rfl) ((mo_lr mo_tpp).at _) fun vp H4 e4 rp => ?_
    have h4 : H4 o = some (.ins C dx [("bottom", .int q.1), ("corners", vc), ("shut", y)]) := e4 _ _ upd_same
    have lt4 := LtUp.ins (u := .ins C dx [("bottom", .int q.1), ("corners", vc), ("shut", y), ("pairs", vp)]) h4
    have lt4' := (Ex.lt e4).trans lt4
    exact k _ vc y vp (Ex.mut (B3.trans e4) hB) upd_same (lt_lr mt_t2 lt4' rc3) (lt_lr mt_n lt4' hy3) (lt_lr mt_tpp lt4 rp)⟩)
/-! ### the methods -/
def spStake (K : PySem.W.Frag) : Sp := mkSp (α := Addr × Addr × Int × List P2 × List Nat × Nat × Option Int) (fun a H vs => vs = [.ref a.1, .int (a.2.2.2.2.2.1 : Int), rowV a.2.2.2.2.2.2] ∧ CF K a.2.1 ∧ OutAt H a.1 a.2.1 a.2.2.1 a.2.2.2.1 a.2.2.2.2.1 ∧ a.2.2.2.2.2.1 < a.2.2.2.1.length ∧ a.2.2.1 ≠ 0 ∧ Bd 100 a.2.2.1 ∧ ∀ r, a.2.2.2.2.2.2 = some r → Bd 700 r)
  (fun a _ v => v = .bl (stakeM a.2.2.1 a.2.2.2.1 a.2.2.2.2.2.1 a.2.2.2.2.2.2))
theorem sc_Outline_is_corner_stake : FnScope ["self", "spot", "row", "x", "y"] ["self", "spot", "row"] (defScope s_Outline_is_corner_stake) := ⟨rfl, rfl, rfl, by decide +kernel, rfl, by decide +kernel, by decide +kernel⟩
theorem ok_stake (F : FnM K "is_corner_stake" "Outline.is_corner_stake" s_Outline_is_corner_stake f fd) : FnOk P w K mg base CX0 1 f fd ["self", "spot", "row"] (spStake K) :=
  F.ok sc_Outline_is_corner_stake (len_mk fun _ _ _ h => by rw [h.1]; rfl) (fun cdv A outer s H vs Q E hr h => ⟨_, PSs.nox (pss_cons (ps_asg (pe_ix ix_seq (pe_fld (pv 0) rfl) (pv 1) (fun _ _ => rfl)) (pg_tup rfl (pgs_cons (pg_name (i := 3) sc_Outline_is_corner_stake.nd rfl (Or.inl rfl)) (pgs_cons (pg_name (i := 4) sc_Outline_is_corner_stake.nd rfl (Or.inl rfl)) pgs_nil)))) (pss_one (ps_ret (pe_and (pe_chain op_eq op_eq (pe_op op_modN (pv 3) (pe_fld (pv 0) rfl)) pe_int (pe_op op_modN (pv 4) (pe_fld (pv 0) rfl))) (pe_one (pe_or (pe_cmpR op_isN (pv 2) pe_non (nomark _)) (pe_one (pe_cmpR op_le (pv 4) (pe_op op_mulW (pv 2) (pe_fld (pv 0) rfl)) (nomark _))))))))), by
    obtain ⟨⟨o, C, b, cs, ss, n, row⟩, ⟨rfl, cf, ho, hn, hb, hb2, hrow⟩, k⟩ := h
    have hb : b ≠ 0 := hb
    obtain ⟨dx, fs, vc, vs, vp, h1, h2, h3, h4, h5, h6, h7, h8, h9⟩ := ho
    obtain ⟨w0, a0, b0⟩ := er_ixL (K := K) (ev_fld (ev_var (σ := L2.start ["self", "spot", "row", "x", "y"] [.ref o, .int (n : Int), rowV row]) (i := 0) rfl) h1 cf.cl cf.nc h3) h6 mo_t2 (ev_var (i := 1) rfl) (at_get hn)
    refine q_asg2 (S := fun _ x y => x = .int (at_ cs n).1 ∧ y = .int (at_ cs n).2) (er_ev a0 fun H1 e => ⟨_, _, mo_t2 _ _ _ _ e b0, rfl, rfl⟩) ?_
    rintro x y H1 e1 ⟨rfl, rfl⟩
    have vb : ∀ {σ : L2.St}, σ[0]? = some (some (.ref o)) → Ev (tFld K (tVar 0) "bottom") σ H1 (.int b) := fun hs => ev_fld (ev_var hs) (e1 _ _ h1) cf.cl cf.nb h2
    refine s_ret (v := .bl (stakeM b cs n row)) (ev_andV (ev_chain (ev_op (ev_var rfl) (vb rfl) (rv_I hb)) ev_c rv_eqI fun _ => ⟨ev_op (ev_var rfl) (vb rfl) (rv_I hb), rv_eqI⟩) fun _ => ?_) fun H2 e2 => k _ _ (e1.trans e2) rfl
    cases row with
    | none => exact ev_is (ev_orV (a := true) (b := true) (ev_op (ev_var rfl) ev_c fun H1 _ Q q => ⟨rfl, q H1 (Ex.refl H1)⟩) fun z => by cases z) rfl
    | some r => exact ev_is (ev_orV (a := false) (ev_op (ev_var rfl) ev_c fun H1 _ Q q => ⟨rfl, q H1 (Ex.refl H1)⟩) fun _ => ev_op (ev_var rfl) (ev_op (ev_var rfl) (vb rfl) (rv_I (cmulB (hrow r rfl) hb2 (by decide)))) rv_I0) rfl⟩)
end
end GF
set_option Elab.async false
set_option linter.all false
set_option maxRecDepth 100000
set_option maxHeartbeats 4000000
set_option exponentiation.threshold 100000
namespace GF
open PySem PySem.Spec PyProof.Rows L2 Evl
section
variable {P : Program} {w : World} {K : PySem.W.Frag} {mg : Str → Option Value} {base : Heap} {f : Addr} {fd : FuncData}
/-- a pair that makes a side -/
def SideOk (cs : List P2) (n : Nat) : Prop := n < (pairsM cs).length ∧ (pairAt cs n).1 ≠ (pairAt cs n).2 ∧ BdP 210 (pairAt cs n).1 ∧ BdP 210 (pairAt cs n).2
theorem span_rise {b : Int} {p q : P2} (hp : BdP 210 p) (hq : BdP 210 q) {s : Span} (h : spanM b p q = some s) : Bd 3000 s.2.2.1 := by
  unfold spanM at h
  simp only at h
  split at h
  · cases h
  · cases h
    exact Bd.mono (n := 211) (Bd.fdiv (hq.2.sub1 hp.2)) (by decide)
def spSideSpan (K : PySem.W.Frag) : Sp := mkSp (α := Addr × Addr × Int × List P2 × List Nat × Nat) (fun a H vs => vs = [.ref a.1, .int (a.2.2.2.2.2 : Int)] ∧ CF K a.2.1 ∧ OutAt H a.1 a.2.1 a.2.2.1 a.2.2.2.1 a.2.2.2.2.1 ∧ SideOk a.2.2.2.1 a.2.2.2.2.2 ∧ 0 < a.2.2.1 ∧ Bd 100 a.2.2.1) (fun a H v => TSp H v (spanAt a.2.2.1 a.2.2.2.1 a.2.2.2.2.2))
theorem sc_Outline_side_span : FnScope ["self", "side", "one", "other"] ["self", "side"] (defScope s_Outline_side_span) := ⟨rfl, rfl, rfl, by decide +kernel, rfl, by decide +kernel, by decide +kernel⟩
theorem ok_side_span (F : FnM K "side_span" "Outline.side_span" s_Outline_side_span f fd) {fI : Addr} {fdI : FuncData} (u_span_of : Use P w K mg base "span_of" 2 ["bottom", "one", "other"] spSpanOf fI fdI) : FnOk P w K mg base CX0 3 f fd ["self", "side"] (spSideSpan K) :=
  F.ok sc_Outline_side_span (len_mk fun _ _ _ h => by rw [h.1]; rfl) (fun cdv A outer s H vs Q E hr h => ⟨_, PSs.nox (pss_cons (ps_asg (pe_ix ix_seq (pe_fld (pv 0) rfl) (pv 1) (fun _ _ => rfl)) (pg_tup rfl (pgs_cons (pg_name (i := 2) sc_Outline_side_span.nd rfl (Or.inl rfl)) (pgs_cons (pg_name (i := 3) sc_Outline_side_span.nd rfl (Or.inl rfl)) pgs_nil)))) (pss_one (ps_ret (pe_call u_span_of.ok (hr.mono (by decide)) rfl u_span_of.g u_span_of.kp u_span_of.b .nil pass0 (pa_cons (pe_fld (pv 0) rfl) (pa_cons (pv 2) (pa_cons (pv 3) pa_nil))))))), by
    obtain ⟨⟨o, C, b, cs, ss, n⟩, ⟨rfl, cf, ho, hs, hb, hb2⟩, k⟩ := h
    obtain ⟨dx, fs, vc, vs, vp, h1, h2, h3, h4, h5, h6, h7, h8, h9⟩ := ho
    obtain ⟨s1, s2, s3, s4⟩ := hs
    obtain ⟨w0, a0, b0⟩ := er_ixL (K := K) (ev_fld (ev_var (σ := L2.start ["self", "side", "one", "other"] [.ref o, .int (n : Int)]) (i := 0) rfl) h1 cf.cl cf.np h5) h8 mo_tpp (ev_var (i := 1) rfl) (pair_get s1)
    refine q_asg2 (S := fun H' x y => T2 H' x (pairAt cs n).1 ∧ T2 H' y (pairAt cs n).2) (er_ev a0 fun H1 e => ?_) ?_
    · obtain ⟨a, x, y, t1, t2, t3, t4⟩ := mo_tpp _ _ _ _ e b0
      exact ⟨x, y, ⟨a, t1, t2⟩, t3, t4⟩
    rintro x y H1 e1 ⟨tx, ty⟩
    exact s_retR (er_use (b, (pairAt cs n).1, (pairAt cs n).2) (ea3 (ev_fld (ev_var rfl) (e1 _ _ h1) cf.cl cf.nb h2) (ev_var rfl) (ev_var rfl)) fun H2 e2 => ⟨x, y, rfl, mo_t2 _ _ _ _ e2 tx, mo_t2 _ _ _ _ e2 ty, s3, s4, hb, hb2, s2⟩) fun u H2 e2 r => k _ _ (e1.trans e2) r⟩)
def SidesOk (cs : List P2) : Prop := 3 ≤ cs.length → ∀ n, n < cs.length → SideOk cs n
def spSideStakes (K : PySem.W.Frag) (C : Addr) : Sp := mkSp (α := Addr × Int × List P2 × List Nat × Nat) (fun a H vs => vs = [.ref a.1, .int (a.2.2.2.2 : Int)] ∧ CF K C ∧ OutAt H a.1 C a.2.1 a.2.2.1 a.2.2.2.1 ∧ a.2.2.2.2 < a.2.2.1.length ∧ SidesOk a.2.2.1 ∧ 0 < a.2.1 ∧ Bd 100 a.2.1) (fun a _ v => v = .int (sideM a.2.1 a.2.2.1 a.2.2.2.2))
theorem sc_Outline_side_stakes : FnScope ["self", "side"] ["self", "side"] (defScope s_Outline_side_stakes) := ⟨rfl, rfl, rfl, by decide +kernel, rfl, by decide +kernel, by decide +kernel⟩
theorem ok_side_stakes (F : FnM K "side_stakes" "Outline.side_stakes" s_Outline_side_stakes f fd) (N : Nm mg) {C fI fJ fL : Addr} {fdI fdJ fdL : FuncData} (cl : Cls K C) (m_is_corner_stake : UseM P w K mg base C "is_corner_stake" 1 ["self", "spot", "row"] (spStake K) fI fdI) (m_side_span : UseM P w K mg base C "side_span" 3 ["self", "side"] (spSideSpan K) fJ fdJ)
    (u_span_count : Use P w K mg base "span_count" 2 ["span", "row"] spSpanCnt fL fdL) : FnOk P w K mg base CX0 4 f fd ["self", "side"] (spSideStakes K C) :=
  F.ok sc_Outline_side_stakes (len_mk fun _ _ _ h => by rw [h.1]; rfl) (fun cdv A outer s H vs Q E hr h => ⟨_, PSs.nox (pss_cons (ps_if (pt_cmpR op_lt (pe_callB call_len_seq (by rfl) N.len (by decide +kernel) (pa_cons (pe_fld (pv 0) rfl) pa_nil)) pe_int (nomark _)) (pss_one (ps_ret (pe_callTy call_int1 (by rfl) N.int (by decide +kernel) (pa_cons (pe_meth (pv 0) cl m_is_corner_stake.m m_is_corner_stake.ok (hr.mono (by decide)) m_is_corner_stake.b .nil pass0 (pa_cons (pv 1) (pa_cons pe_non pa_nil))) pa_nil)))) pss_nil) (pss_one (ps_ret (pe_call u_span_count.ok (hr.mono (by decide)) rfl u_span_count.g u_span_count.kp u_span_count.b .nil pass0 (pa_cons (pe_meth (pv 0) cl m_side_span.m m_side_span.ok (hr.mono (by decide)) m_side_span.b .nil pass0 (pa_cons (pv 1) pa_nil)) (pa_cons pe_non pa_nil)))))), by
    obtain ⟨⟨o, b, cs, ss, n⟩, ⟨rfl, cf, ho, hn, hs, hb, hb2⟩, k⟩ := h
    have hb : 0 < b := hb
    have ho2 := ho
    obtain ⟨dx, fs, vc, vs, vp, h1, h2, h3, h4, h5, h6, h7, h8, h9⟩ := ho
    refine q_when (et_test (ev_op (ev_lenL (ev_fld (ev_var rfl) h1 cf.cl cf.nc h3) h6) ev_c rv_I0)) (fun hlt H1 e1 => ?_) (fun hlt H1 e1 => ?_)
    · have hlt := of_decide_eq_true hlt
      refine s_ret (ev_int (ev_er (er_meth (o, C, b, cs, ss, n, none) (ev_var rfl) (e1 _ _ h1) (h9 _ (by simp [mths])) (ea2 (ev_var rfl) ev_c) fun H2 e2 => ⟨rfl, cf, mo_out (e1.trans e2) ho2, hn, by show b ≠ 0; omega, hb2, fun r z => by cases z⟩))) fun H2 e2 => k _ _ (e1.trans e2) ?_
      have hlt : ((cs.length : Int) < 3) := hlt
      have e5 : sideM b cs n = if stakeM b cs n none = true then 1 else 0 := by
        unfold sideM
        exact if_pos (by omega)
      show V.int _ = V.int (sideM b cs n)
      rw [e5]
    · have hlt : ¬ ((cs.length : Int) < 3) := of_decide_eq_false hlt
      have h3l : 3 ≤ cs.length := by omega
      have hso := hs h3l n hn
      refine s_retR (er_call (spanAt b cs n, none) (ar_cons (er_meth (o, C, b, cs, ss, n) (ev_var rfl) (e1 _ _ h1) (h9 _ (by simp [mths])) (ea1 (ev_var rfl)) fun H2 e2 => ⟨rfl, cf, mo_out (e1.trans e2) ho2, hso, hb, hb2⟩) (mt_sp.mo.at _) (ar_cons (er_is ev_c) mo_is ar_nil)) ?_) fun u H2 e2 r => k _ _ (e1.trans e2) ?_
      · rintro H2 vs e2 ⟨x, ws, rfl, hx, y, _, rfl, rfl, rfl⟩
        exact ⟨x, rfl, hx, fun s hs2 => span_rise hso.2.2.1 hso.2.2.2 hs2⟩
      · show u = V.int (sideM b cs n)
        rw [sideM, if_neg (by omega)]
        exact r⟩)
/-! ### holds -/
theorem ev_leT {ta tb : TE} {σ : L2.St} {H : Hp} {x y : V} {p q : Pt} (h : Ev ta σ H x) (h2 : Ev tb σ H y) (t1 : T2 H x p) (t2 : T2 H y q) : Ev (tOp (rLeT K) ta tb) σ H (.bl (decide (ptle p q))) := by
  obtain ⟨a, rfl, ha⟩ := t1
  obtain ⟨b, rfl, hb⟩ := t2
  refine ev_op h h2 ?_
  exact rv_leT ha hb
where
  rv_leT {K : PySem.W.Frag} {H : Hp} {a b : Addr} {p q : Pt} (ha : H a = some (.tup [.int p.1, .int p.2])) (hb : H b = some (.tup [.int q.1, .int q.2])) : RV (rLeT K) (.ref a) (.ref b) H (.bl (decide (ptle p q))) := fun H1 e Q k => ⟨a, b, [p.1, p.2], [q.1, q.2], rfl, rfl, st_of (e _ _ ha), st_of (e _ _ hb), by
    have e : Ob.lexAt (fun j => decide ([p.1, p.2].getD j 0 = [q.1, q.2].getD j 0)) (fun j => decide ([p.1, p.2].getD j 0 ≤ [q.1, q.2].getD j 0)) (decide ([p.1, p.2].length ≤ [q.1, q.2].length)) 0 (min [p.1, p.2].length [q.1, q.2].length) = decide (ptle p q) := by
      show Ob.lexAt _ _ _ 0 2 = _
      rw [Ob.lexAt_succ, Ob.lexAt_succ, Ob.lexAt_zero]
      show (if decide (p.1 = q.1) = true then (if decide (p.2 = q.2) = true then decide (2 ≤ 2) else decide (p.2 ≤ q.2)) else decide (p.1 ≤ q.1)) = _
      obtain ⟨p1, p2⟩ := p
      obtain ⟨q1, q2⟩ := q
      simp only [ptle, ptlt, Prod.mk.injEq, decide_eq_true_eq]
      by_cases h1 : p1 = q1
      · rw [if_pos h1]
        by_cases h2 : p2 = q2
        · rw [if_pos h2]
          simp [h1, h2]
        · rw [if_neg h2]
          refine decide_eq_decide.mpr ?_
          omega
      · rw [if_neg h1]
        refine decide_eq_decide.mpr ?_
        omega
    rw [e]
    exact k H1 (Ex.refl H1)⟩
theorem pd_eqv (p q : Pt) : PyData.eqv (PD p) (PD q) = decide (p = q) := by
  obtain ⟨p1, p2⟩ := p
  obtain ⟨q1, q2⟩ := q
  simp [PD, PyData.eqv, PyData.eqvAll, Prod.mk.injEq]
  rfl
/-- x not in [points] -/
theorem ev_notInP {ta tb : TE} {σ : L2.St} {H : Hp} {x : V} {p : Pt} {ps : List Pt} (h : Ev ta σ H x) (t : T2 H x p) (hb : ER tb σ H (fun H' v => LR T2 H' v ps)) : Ev (tOp (rNotInD K) ta tb) σ H (.bl (!ps.any fun q => decide (q = p))) := fun H1 e Q k =>
  h H1 e _ fun H2 e2 => hb H2 (e.trans e2) _ fun y H3 e3 r => by
    obtain ⟨a, vs, rfl, r1, r2⟩ := r
    refine ⟨PD p, ps.map PD, dp_t2 (mo_t2 _ _ _ _ ((e.trans e2).trans e3) t), .lst (sq_of r1) (dp_all r2), rfl, ?_, ?_⟩
    · have h1 : ∀ ps : List Pt, PyData.canLayAll0 (ps.map PD) = true := fun ps => by
        induction ps with
        | nil => rfl
        | cons p r ih =>
          show (PyData.canLay0 (PD p) && PyData.canLayAll0 (r.map PD)) = true
          rw [ih]
          rfl
      have h2 := pd_depthAll ps
      show (PyData.canLayAll0 (ps.map PD) && decide (PyData.depthAll (ps.map PD) + 1 ≤ 64)) = true
      rw [h1, decide_eq_true (by omega)]
      rfl
    · have e4 : ((ps.map PD).any fun z => PyData.eqv z (PD p)) = ps.any fun q => decide (q = p) := by
        rw [List.any_map]
        congr 1
        funext q
        exact pd_eqv q p
      rw [e4]
      exact k H3 (e2.trans e3)
theorem ev_minGe {te : TE} {σ : L2.St} {H : Hp} {ns : List Int} (h : Ev te σ H x) (hl : LR IsI H x ns) (hne : 0 < ns.length) : Ev (tOp (rI0 fun i j => .bl (decide (i ≥ j))) (tCB (rMin K) (tCons te tNil)) (tC (.int 0))) σ H (.bl (ns.all fun t => decide (0 ≤ t))) := by
  obtain ⟨a, rfl, h2⟩ := hl.ints
  refine fun H1 e Q k => h H1 e _ fun H2 e2 => ⟨a, ns, rfl, sq_of ((e.trans e2) _ _ h2), hne, fun m hm hle => ⟨m, 0, rfl, rfl, ?_⟩⟩
  have e4 : decide (m ≥ 0) = ns.all fun t => decide (0 ≤ t) := by
    by_cases hm0 : m ≥ 0
    · rw [decide_eq_true hm0]
      symm
      rw [List.all_eq_true]
      intro t ht
      have := hle t ht
      simp
      omega
    · rw [decide_eq_false hm0]
      symm
      rw [List.all_eq_false]
      exact ⟨m, hm, by simpa using hm0⟩
  show Q (.bl (decide (m ≥ 0))) H2
  rw [e4]
  exact k H2 e2
theorem ev_chainT {ta tb tc : TE} {σ : L2.St} {H : Hp} {x y z : V} {p q r : Pt} (h : Ev ta σ H x) (h2 : Ev tb σ H y) (h3 : Ev tc σ H z) (t1 : T2 H x p) (t2 : T2 H y q) (t3 : T2 H z r) : Ev (tChain (rLeT K) (rLeT K) ta tb tc) σ H (.bl (decide (ptle p q) && decide (ptle q r))) := by
  obtain ⟨a, rfl, ha⟩ := t1
  obtain ⟨b, rfl, hb⟩ := t2
  obtain ⟨c, rfl, hc⟩ := t3
  exact ev_chain h h2 (ev_leT.rv_leT ha hb) fun _ => ⟨h3, ev_leT.rv_leT hb hc⟩
def spHolds (K : PySem.W.Frag) (C : Addr) : Sp := mkSp (α := Addr × Int × List P2 × List Nat × Pt) (fun a H vs => ∃ v, vs = [.ref a.1, v] ∧ T2 H v a.2.2.2.2 ∧ BdP 700 a.2.2.2.2 ∧ CF K C ∧ OutAt H a.1 C a.2.1 a.2.2.1 a.2.2.2.1 ∧ 1 ≤ a.2.2.1.length ∧ a.2.2.1.length ≤ 1000 ∧ a.2.2.2.1.length ≤ 1000 ∧ (∀ e ∈ a.2.2.2.1, e < a.2.2.1.length) ∧ (∀ p ∈ a.2.2.1, BdP 210 p) ∧ Bd 100 a.2.1) (fun a _ v => v = .bl (holdsM a.2.1 a.2.2.1 a.2.2.2.1 a.2.2.2.2))
theorem BdP.mono {n m : Nat} {p : Pt} (h : BdP n p) (l : n ≤ m) : BdP m p := ⟨h.1.mono l, h.2.mono l⟩
theorem pairs_mem {cs : List P2} (h1 : 1 ≤ cs.length) {q : PP} (hq : q ∈ pairsM cs) : q.1 ∈ cs ∧ q.2 ∈ cs := by
  unfold pairsM at hq
  split at hq
  · simp at hq
    subst hq
    exact ⟨mem_at (by omega), mem_at (by omega)⟩
  · have h := List.of_mem_zip (show (q.1, q.2) ∈ _ from hq)
    refine ⟨h.1, ?_⟩
    rcases List.mem_append.mp h.2 with h | h
    · exact List.mem_of_mem_drop h
    · exact List.mem_of_mem_take h
theorem sc_Outline_holds : FnScope ["self", "point", "spot", "end", "turns", "one", "two", "side"] ["self", "point"] (defScope s_Outline_holds) := ⟨rfl, rfl, rfl, by decide +kernel, rfl, by decide +kernel, by decide +kernel⟩
theorem ok_holds (F : FnM K "holds" "Outline.holds" s_Outline_holds f fd) (N : Nm mg) {C fI : Addr} {fdI : FuncData} (u_turn_at : Use P w K mg base "turn_at" 1 ["one", "two", "three"] spTurn fI fdI) : FnOk P w K mg base CX0 2 f fd ["self", "point"] (spHolds K C) :=
  F.ok sc_Outline_holds (len_mk fun _ _ _ ⟨_, h, _⟩ => by rw [h]; rfl) (fun cdv A outer s H vs Q E hr h => ⟨_, PSs.nox (pss_cons (ps_set (i := 2) sc_Outline_holds.nd rfl (Or.inr rfl) (pe_tup (pa_cons (pe_op op_mulW (pe_ix ix_seq (pv 1) pe_int (fun _ _ => rfl)) (pe_fld (pv 0) rfl)) (pa_cons (pe_op op_mulW (pe_ix ix_seq (pv 1) pe_int (fun _ _ => rfl)) (pe_fld (pv 0) rfl)) pa_nil)))) (pss_cons (ps_if (pt_cmpR op_lt (pe_callB call_len_seq (by rfl) N.len (by decide +kernel) (pa_cons (pe_fld (pv 0) rfl) pa_nil)) pe_int (nomark _)) (pss_cons (ps_if (pt_cmpR op_ne (pe_call u_turn_at.ok (hr.mono (by decide)) rfl u_turn_at.g u_turn_at.kp u_turn_at.b .nil pass0 (pa_cons (pe_ix ix_seq (pe_fld (pv 0) rfl) pe_int (fun _ _ => rfl)) (pa_cons (pe_ix ix_seq (pe_fld (pv 0) rfl) (pe_un un_neg pe_int) (fun _ _ => rfl)) (pa_cons (pv 2) pa_nil)))) pe_int (nomark _)) (pss_one (ps_ret pe_bl)) pss_nil) (pss_cons (ps_if (pt_not (pt_chain (op_leT hr.units0) (op_leT hr.units0) (pe_ix ix_seq (pe_fld (pv 0) rfl) pe_int (fun _ _ => rfl)) (pv 2) (pe_ix ix_seq (pe_fld (pv 0) rfl) (pe_un un_neg pe_int) (fun _ _ => rfl)))) (pss_one (ps_ret pe_bl)) pss_nil) (pss_one (ps_ret (pe_cmpR (op_notInD (units65 hr)) (pv 2) (pe_lc (own := [("end", 3)]) (g := gName 3) rfl sc_Outline_holds.nd (pi_list (pe_fld (pv 0) rfl)) (blkOk_by (own := [("end", 3)]) (N := ["self", "point", "spot", "end", "turns", "one", "two", "side"]) (sc := defScope s_Outline_holds) (by decide +kernel)) (fun _ _ _ _ _ => (pg_name (i := 3) sc_Outline_holds.nd rfl (Or.inl rfl))) (fun _ _ _ _ _ => pts_nil) (fun _ _ _ _ _ => (pe_ix (ix_seqK (K := K) rfl) (pe_fldK (K := K) rfl (pv 0) rfl) (pv 3) (fun _ _ => rfl)))) (by rfl)))))) pss_nil) (pss_cons (ps_set (i := 4) sc_Outline_holds.nd rfl (Or.inr rfl) (pe_lc (own := [("one", 5), ("two", 6)]) rfl sc_Outline_holds.nd (pi_list (pe_fld (pv 0) rfl)) (blkOk_by (own := [("one", 5), ("two", 6)]) (N := ["self", "point", "spot", "end", "turns", "one", "two", "side"]) (sc := defScope s_Outline_holds) (by decide +kernel)) (fun _ _ _ _ _ => (pg_tupK (K := K) (n := 2) rfl rfl (pgs_cons (pg_name (i := 5) sc_Outline_holds.nd rfl (Or.inl rfl)) (pgs_cons (pg_name (i := 6) sc_Outline_holds.nd rfl (Or.inl rfl)) pgs_nil)))) (fun _ _ _ _ _ => pts_nil) (fun _ _ _ _ _ => (pe_call u_turn_at.ok (hr.mono (by decide)) rfl u_turn_at.g u_turn_at.kp u_turn_at.b .nil pass0 (pa_cons (pv 5) (pa_cons (pv 6) (pa_cons (pv 2) pa_nil))))))) (pss_one (ps_ret (pe_and (pe_cmpR op_ge (pe_callB (cr_min rfl) (by rfl) N.min (by decide +kernel) (pa_cons (pv 4) pa_nil)) pe_int (nomark _)) (pe_one (pe_callB (cr_all rfl) (by rfl) N.all (by decide +kernel) (pa_cons (pe_lc (own := [("side", 7)]) (g := gName 7) rfl sc_Outline_holds.nd (pi_list (pe_fld (pv 0) rfl)) (blkOk_by (own := [("side", 7)]) (N := ["self", "point", "spot", "end", "turns", "one", "two", "side"]) (sc := defScope s_Outline_holds) (by decide +kernel)) (fun _ _ _ _ _ => (pg_name (i := 7) sc_Outline_holds.nd rfl (Or.inl rfl))) (fun _ _ _ _ _ => pts_nil) (fun _ _ _ _ _ => (pe_cmpR op_gt (pe_ix (ix_seqK (K := K) rfl) (pv 4) (pv 7) (fun _ _ => rfl)) pe_int (nomark _)))) pa_nil))))))))), by
    obtain ⟨⟨o, b, cs, ss, pt⟩, ⟨v, rfl, t, bpt, cf, ho, hl1, hl2, hl3, hss, hbd, hb2⟩, k⟩ := h
    obtain ⟨dx, fs, vc, vs, vp, h1, h2, h3, h4, h5, h6, h7, h8, h9⟩ := ho
    have hl1 : 1 ≤ cs.length := hl1
    have hl2 : cs.length ≤ 1000 := hl2
    have hl3 : ss.length ≤ 1000 := hl3
    have hbs : BdP 800 (pt.1 * b, pt.2 * b) := ⟨Bd.mul bpt.1 hb2, Bd.mul bpt.2 hb2⟩
    refine q_asgR (R := fun H' v => T2 H' v (pt.1 * b, pt.2 * b)) (er_tn (ea2 (ev_op (ev_x (ev_var rfl) t) (ev_fld (ev_var rfl) h1 cf.cl cf.nb h2) (rv_I (cmulB bpt.1 hb2 (by decide)))) (ev_op (ev_y (ev_var rfl) t) (ev_fld (ev_var rfl) h1 cf.cl cf.nb h2) (rv_I (cmulB bpt.2 hb2 (by decide))))) (by simp)) fun sv H1 e1 tsv => ?_
    have k1 := e1 _ _ h1
    have hc1 := mo_lr mo_t2 _ _ _ _ e1 h6
    have hs1 := mo_lr mt_n.mo _ _ _ _ e1 h7
    have hp1 := mo_lr mo_tpp _ _ _ _ e1 h8
    have hold : ∀ r, holdsM b cs ss pt = r → ∀ H2, Ex H1 H2 → Q (.bl r) H2 := fun r hr H2 e => k _ _ (e1.trans e) (congrArg V.bl hr.symm)
    refine q_when (et_test (ev_op (ev_lenL (ev_fld (ev_var rfl) k1 cf.cl cf.nc h3) hc1) ev_c rv_I0)) (fun hlt H2 e2 => ?_) (fun hlt H2 e2 => ?_)
    · have hlt : ((cs.length : Int) < 3) := of_decide_eq_true hlt
      have hh : ∀ r, (if turnM (at_ cs 0) (at_ cs (cs.length - 1)) (pt.1 * b, pt.2 * b) ≠ 0 then false
    else if (decide (ptle (at_ cs 0) (pt.1 * b, pt.2 * b)) && decide (ptle (pt.1 * b, pt.2 * b) (at_ cs (cs.length - 1)))) = true then !(ss.any fun e => decide (at_ cs e = (pt.1 * b, pt.2 * b)))
    else false) = r → holdsM b cs ss pt = r := fun r hr => by
        unfold holdsM
        rw [if_pos (by omega)]
        exact hr
      have vf : ∀ {H3 : Hp} {σ : L2.St}, Ex H1 H3 → σ[0]? = some (some (.ref o)) → Ev (tFld K (tVar 0) "corners") σ H3 vc := fun e hs => ev_fld (ev_var hs) (e _ _ k1) cf.cl cf.nc h3
      have v0 : ∀ {H3 : Hp} {σ : L2.St}, Ex H1 H3 → σ[0]? = some (some (.ref o)) → ∃ u, Ev (tOp (rIx K) (tFld K (tVar 0) "corners") (tC (.int 0))) σ H3 u ∧ T2 H3 u (at_ cs 0) := fun e hs => er_ixL (i := 0) (vf e hs) (mo_lr mo_t2 _ _ _ _ e hc1) mo_t2 ev_c (at_get (by omega))
      have v1 : ∀ {H3 : Hp} {σ : L2.St}, Ex H1 H3 → σ[0]? = some (some (.ref o)) → ∃ u, Ev (tOp (rIx K) (tFld K (tVar 0) "corners") (tUn (rU fun i => .int (-i)) (tC (.int 1)))) σ H3 u ∧ T2 H3 u (at_ cs (cs.length - 1)) := fun e hs => er_ixLast (vf e hs) (mo_lr mo_t2 _ _ _ _ e hc1) (ev_un ev_c ru_neg) (at_last hl1)
      obtain ⟨u0, a0, b0⟩ := v0 (H3 := H2) (σ := (L2.start ["self", "point", "spot", "end", "turns", "one", "two", "side"] [.ref o, v]).set 2 (some sv)) e2 rfl
      obtain ⟨u1, a1, b1⟩ := v1 (H3 := H2) (σ := (L2.start ["self", "point", "spot", "end", "turns", "one", "two", "side"] [.ref o, v]).set 2 (some sv)) e2 rfl
      have ts2 := mo_t2 _ _ _ _ e2 tsv
      have hb00 : BdP 210 (at_ cs 0) := hbd _ (mem_at (by omega))
      have hb01 : BdP 210 (at_ cs (cs.length - 1)) := hbd _ (mem_at (Nat.sub_lt hl1 Nat.one_pos))
      refine q_when (et_test (ev_op (ev_turn (n := 800) (by decide) a0 a1 (ev_var rfl) b0 b1 ts2 (BdP.mono hb00 (by decide)) (BdP.mono hb01 (by decide)) hbs) ev_c rv_neI)) (fun ht H3 e3 => ?_) (fun ht H3 e3 => ?_)
      · have ht : turnM (at_ cs 0) (at_ cs (cs.length - 1)) (pt.1 * b, pt.2 * b) ≠ 0 := by simpa using ht
        exact s_ret ev_c fun H4 e4 => hold _ (hh _ (if_pos ht)) _ ((e2.trans e3).trans e4)
      have ht : ¬ turnM (at_ cs 0) (at_ cs (cs.length - 1)) (pt.1 * b, pt.2 * b) ≠ 0 := by simpa using ht
      have e23 := e2.trans e3
      obtain ⟨u2, a2, b2⟩ := v0 (H3 := H3) (σ := (L2.start ["self", "point", "spot", "end", "turns", "one", "two", "side"] [.ref o, v]).set 2 (some sv)) e23 rfl
      obtain ⟨u3, a3, b3⟩ := v1 (H3 := H3) (σ := (L2.start ["self", "point", "spot", "end", "turns", "one", "two", "side"] [.ref o, v]).set 2 (some sv)) e23 rfl
      have ts3 := mo_t2 _ _ _ _ e23 tsv
      refine q_when (et_not (et_test (ev_chainT a2 (ev_var rfl) a3 b2 ts3 b3))) (fun hc H4 e4 => ?_) (fun hc H4 e4 => ?_)
      · have hc : ¬ (decide (ptle (at_ cs 0) (pt.1 * b, pt.2 * b)) && decide (ptle (pt.1 * b, pt.2 * b) (at_ cs (cs.length - 1)))) = true := fun z => by rw [z] at hc; cases hc
        exact s_ret ev_c fun H5 e5 => hold _ (hh _ (by rw [if_neg ht, if_neg hc])) _ ((e23.trans e4).trans e5)
      · have hc : (decide (ptle (at_ cs 0) (pt.1 * b, pt.2 * b)) && decide (ptle (pt.1 * b, pt.2 * b) (at_ cs (cs.length - 1)))) = true := by simpa using hc
        have e24 := e23.trans e4
        have hc4 := mo_lr mo_t2 _ _ _ _ e24 hc1
        have hs4 := mo_lr mt_n.mo _ _ _ _ e24 hs1
        refine s_ret (ev_notInP (ps := ss.map fun e => at_ cs e) (ev_var rfl) (mo_t2 _ _ _ _ e24 tsv) ?_) fun H5 e5 => hold _ (hh _ ?_) _ (e24.trans e5)
        · rw [← fil_true ss]
          refine er_lc (S := IsN) (S' := T2) (fun _ => true) (fun e => at_ cs e) mt_n.mo mt_t2 (er_ev (ev_fld (ev_var rfl) (e24 _ _ k1) cf.cl cf.ns h4) fun H5 e5 => mo_lr mt_n.mo _ _ _ _ e5 hs4) (by omega) fun e H5 he e5 => tn_name (fun _ => rfl) fun u H6 e6 su => ?_
          cases su
          obtain ⟨u5, a5, b5⟩ := er_ixL (K := K) (i := e) (ev_fld (te := tVar 0) (σ := [some (.ref o), some v, some sv, some (.int (e : Int)), none, none, none, none]) (ev_var rfl) ((e24.trans (e5.trans e6)) _ _ k1) cf.cl cf.nc h3) (mo_lr mo_t2 _ _ _ _ (e5.trans e6) hc4) mo_t2 (ev_var (i := 3) rfl) (at_get (hss e he))
          exact er_ev a5 fun H7 e7 => mo_t2 _ _ _ _ e7 b5
        · rw [if_neg ht, if_pos hc, List.any_map]
          rfl
    · have hlt : ¬ ((cs.length : Int) < 3) := of_decide_eq_false hlt
      have h3l : 3 ≤ cs.length := by omega
      have hp2 := mo_lr mo_tpp _ _ _ _ e2 hp1
      have ts2 := mo_t2 _ _ _ _ e2 tsv
      refine q_asgR (R := fun H' v => LR IsI H' v (turnsM cs (pt.1 * b, pt.2 * b))) ?_ fun tv H3 e3 rt => ?_
      · rw [turnsM, ← fil_true (pairsM cs)]
        refine er_lc (S := TPP) (S' := IsI) (fun _ => true) (fun q : PP => turnM q.1 q.2 (pt.1 * b, pt.2 * b)) mo_tpp mt_int (er_ev (ev_fld (ev_var rfl) (e2 _ _ k1) cf.cl cf.np h5) fun H5 e5 => mo_lr mo_tpp _ _ _ _ e5 hp2) (by rw [pairs_len h3l]; omega) fun q H5 hq e5 => tn_pair (A := fun H v => T2 H v q.1) (B := fun H v => T2 H v q.2) (fun v H6 e6 s => ?_) (fun _ _ => rfl) fun y z H6 e6 ty tz => ?_
        · obtain ⟨a, x, y, c1, c2, c3, c4⟩ := s
          exact ⟨x, y, ⟨a, c1, c2⟩, c3, c4⟩
        · have hq2 := pairs_mem hl1 hq
          exact er_ev (ev_turn (n := 800) (by decide) (ev_var rfl) (ev_var rfl) (ev_var rfl) ty tz (mo_t2 _ _ _ _ (e5.trans e6) ts2) ((hbd _ hq2.1).mono (by decide)) ((hbd _ hq2.2).mono (by decide)) hbs) fun _ _ => rfl
      have e13 := e2.trans e3
      have hs3 := mo_lr mt_n.mo _ _ _ _ e13 hs1
      have htl : (turnsM cs (pt.1 * b, pt.2 * b)).length = cs.length := by rw [turnsM, List.length_map, pairs_len h3l]
      refine s_ret (ev_andV (ev_minGe (ev_var rfl) rt (by omega)) fun _ => ev_all (bs := ss.map fun e => decide ((turnsM cs (pt.1 * b, pt.2 * b)).getD e 0 > 0)) ?_) fun H4 e4 => hold _ ?_ _ (e13.trans e4)
      · rw [← fil_true ss]
        refine er_lc (S := IsN) (S' := IsB) (fun _ => true) (fun e => decide ((turnsM cs (pt.1 * b, pt.2 * b)).getD e 0 > 0)) mt_n.mo mt_bl (er_ev (ev_fld (ev_var rfl) (e13 _ _ k1) cf.cl cf.ns h4) fun H5 e5 => mo_lr mt_n.mo _ _ _ _ e5 hs3) (by omega) fun e H5 he e5 => tn_name (fun _ => rfl) fun u H6 e6 su => ?_
        cases su
        have hlt2 : e < (turnsM cs (pt.1 * b, pt.2 * b)).length := by rw [htl]; exact hss e he
        have hget : (turnsM cs (pt.1 * b, pt.2 * b))[e]? = some ((turnsM cs (pt.1 * b, pt.2 * b)).getD e 0) := by
          rw [List.getD_eq_getElem?_getD, List.getElem?_eq_getElem hlt2]
          rfl
        obtain ⟨u5, a5, b5⟩ := er_ixL (K := K) (i := e) (ev_var (σ := [some (.ref o), some v, some sv, none, some tv, none, none, some (.int (e : Int))]) (i := 4) rfl) (mo_lr mo_int _ _ _ _ (e5.trans e6) rt) mo_int (ev_var (i := 7) rfl) hget
        cases b5
        exact er_ev (ev_op a5 ev_c rv_I0) fun _ _ => rfl
      · unfold holdsM
        rw [if_neg (by omega), List.all_map]
        rfl⟩)
end
end GF
set_option Elab.async false
set_option linter.all false
/-! The counts in plain Lean. -/
namespace GF
def minL : List Int → Int
  | [] => 0
  | [x] => x
  | x :: y :: r => if x ≤ minL (y :: r) then x else minL (y :: r)
def maxL : List Int → Int
  | [] => 0
  | [x] => x
  | x :: y :: r => if maxL (y :: r) ≤ x then x else maxL (y :: r)
theorem minL_ok : ∀ (ns : List Int), 0 < ns.length → minL ns ∈ ns ∧ ∀ y ∈ ns, minL ns ≤ y
  | [], h => by simp at h
  | [x], _ => by simp [minL]
  | x :: y :: r, _ => by
    obtain ⟨h1, h2⟩ := minL_ok (y :: r) (by simp)
    rw [minL]
    split
    · refine ⟨List.mem_cons_self .., fun z hz => ?_⟩
      rcases List.mem_cons.mp hz with e | hz
      · omega
      · have := h2 z hz
        omega
    · refine ⟨List.mem_cons_of_mem _ h1, fun z hz => ?_⟩
      rcases List.mem_cons.mp hz with e | hz
      · omega
      · exact h2 z hz
theorem maxL_ok : ∀ (ns : List Int), 0 < ns.length → maxL ns ∈ ns ∧ ∀ y ∈ ns, y ≤ maxL ns
  | [], h => by simp at h
  | [x], _ => by simp [maxL]
  | x :: y :: r, _ => by
    obtain ⟨h1, h2⟩ := maxL_ok (y :: r) (by simp)
    rw [maxL]
    split
    · refine ⟨List.mem_cons_self .., fun z hz => ?_⟩
      rcases List.mem_cons.mp hz with e | hz
      · omega
      · have := h2 z hz
        omega
    · refine ⟨List.mem_cons_of_mem _ h1, fun z hz => ?_⟩
      rcases List.mem_cons.mp hz with e | hz
      · omega
      · exact h2 z hz
theorem minL_eq {ns : List Int} {m : Int} (h : m ∈ ns) (hl : ∀ y ∈ ns, m ≤ y) : m = minL ns := by
  obtain ⟨h1, h2⟩ := minL_ok ns (List.length_pos_of_mem h)
  have a := hl _ h1
  have b := h2 _ h
  omega
theorem maxL_eq {ns : List Int} {m : Int} (h : m ∈ ns) (hl : ∀ y ∈ ns, y ≤ m) : m = maxL ns := by
  obtain ⟨h1, h2⟩ := maxL_ok ns (List.length_pos_of_mem h)
  have a := hl _ h1
  have b := h2 _ h
  omega
def lowM (b : Int) (cs : List P2) : Int := rup (minL (cs.map Prod.snd)) b
def highM (b : Int) (cs : List P2) : Int := (maxL (cs.map Prod.snd)).fdiv b
def fieldM (cs : List P2) : List PP := if cs.length > 2 then pairsM cs else []
noncomputable def rightsM (b : Int) (cs : List P2) : List Edge := edgesM b ((fieldM cs).filter fun q => decide (q.1.2 < q.2.2))
noncomputable def leftsM (b : Int) (cs : List P2) : List Edge := edgesM b (((fieldM cs).filter fun q => decide (q.1.2 > q.2.2)).map fun q => (q.2, q.1))
def wholeM (b : Int) (cs : List P2) : Option Span := if cs.length = 2 then spanAt b cs 0 else none
def spansM (b : Int) (cs : List P2) (ss : List Nat) : List (Option Span) := if cs.length > 2 then ss.map (spanAt b cs) else []
def lastM (b : Int) (cs : List P2) : Option Int → Int
  | none => highM b cs
  | some r => mn (highM b cs) r
noncomputable def closedM (b : Int) (cs : List P2) (row : Option Int) : Int :=
  if cs.length = 1 then (if stakeM b cs 0 row = true then 1 else 0)
  else if cs.length = 2 then spanCnt (spanAt b cs 0) row
  else if lastM b cs row < lowM b cs then 0
  else lastM b cs row - lowM b cs + 1 + ((rightsM b cs).map fun e => edgeSumM e row 1).sum + ((leftsM b cs).map fun e => edgeSumM e row (-1)).sum
def prevM (n s : Nat) : Nat := (s + (n - 1)) % n
def twiceM (n : Nat) (ss : List Nat) : List Nat := ss.filter fun s => decide (prevM n s ∈ ss)
def shutM (b : Int) (cs : List P2) (ss : List Nat) (row : Option Int) : Int :=
  if cs.length < 3 then ((ss.filter fun e => stakeM b cs e row).length : Int)
  else (ss.map fun s => spanCnt (spanAt b cs s) row).sum - (((twiceM cs.length ss).filter fun s => stakeM b cs s row).length : Int)
noncomputable def belowM (b : Int) (cs : List P2) (ss : List Nat) (row : Option Int) : Int := closedM b cs row - shutM b cs ss row
end GF
set_option Elab.async false
set_option linter.all false
set_option maxRecDepth 100000
set_option maxHeartbeats 4000000
set_option exponentiation.threshold 100000
namespace GF
open PySem PySem.Spec PyProof.Rows L2 Evl
theorem sc_Grown_init : SScope ["self", "fence", "size", "heights", "x", "y", "field", "pair", "one", "two", "side"] (defScope s_Grown_init) := ⟨rfl, rfl, rfl, by decide +kernel, ⟨_, rfl⟩, rfl, rfl, rfl, rfl, rfl, fun _ _ => rfl, fun _ => rfl, by decide +kernel⟩
/-- a class whose objects are grown -/
structure CG (K : PySem.W.Frag) (C : Addr) : Prop extends CF K C where
  nl : NoAttr K C "lowest"
  nh : NoAttr K C "highest"
  nr : NoAttr K C "rights"
  ne : NoAttr K C "lefts"
  nw : NoAttr K C "whole"
  nsp : NoAttr K C "spans"
def fsG (b : Int) (vc vs vp : V) (lo hi : Int) (vr vl vw vsp : V) : List (Str × V) := [("bottom", .int b), ("corners", vc), ("shut", vs), ("pairs", vp), ("lowest", .int lo), ("highest", .int hi), ("rights", vr), ("lefts", vl), ("whole", vw), ("spans", vsp)]
def GrAt (H : Hp) (o C : Addr) (b : Int) (cs : List P2) (ss : List Nat) : Prop := ∃ (dx : Addr) (vc vs vp vr vl vw vsp : V), H o = some (.ins C dx (fsG b vc vs vp (lowM b cs) (highM b cs) vr vl vw vsp)) ∧ LR T2 H vc cs ∧ LR IsN H vs ss ∧ LR TPP H vp (pairsM cs) ∧
  LR TE5 H vr (rightsM b cs) ∧ LR TE5 H vl (leftsM b cs) ∧ TSp H vw (wholeM b cs) ∧ LR TSp H vsp (spansM b cs ss)
theorem mo_gr {o C : Addr} {b : Int} {cs : List P2} {ss : List Nat} {H H' : Hp} (e : Ex H H') (h : GrAt H o C b cs ss) : GrAt H' o C b cs ss := by
  obtain ⟨dx, vc, vs, vp, vr, vl, vw, vsp, h1, h2, h3, h4, h5, h6, h7, h8⟩ := h
  exact ⟨dx, vc, vs, vp, vr, vl, vw, vsp, e _ _ h1, mo_lr mo_t2 _ _ _ _ e h2, mo_lr mt_n.mo _ _ _ _ e h3, mo_lr mo_tpp _ _ _ _ e h4, mo_lr mt_e5.mo _ _ _ _ e h5, mo_lr mt_e5.mo _ _ _ _ e h6, mt_sp.mo _ _ _ _ e h7, mo_lr mt_sp.mo _ _ _ _ e h8⟩
theorem gr_out {o C : Addr} {b : Int} {cs : List P2} {ss : List Nat} {H : Hp} (h : GrAt H o C b cs ss) : OutAt H o C b cs ss := by
  obtain ⟨dx, vc, vs, vp, vr, vl, vw, vsp, h1, h2, h3, h4, h5, h6, h7, h8⟩ := h
  refine ⟨dx, _, vc, vs, vp, h1, rfl, rfl, rfl, rfl, h2, h3, h4, fun m hm => ?_⟩
  simp only [mths, List.mem_cons, List.not_mem_nil, or_false] at hm
  rcases hm with rfl | rfl | rfl | rfl | rfl | rfl | rfl <;> rfl
/-- o.f1, o.f2 = e1, e2 -/
theorem q_fld2 {K : PySem.W.Frag} {te ta tb : TE} {σ : L2.St} {H : Hp} {f1 f2 : Str} {o C dx : Addr} {fs : List (Str × V)} {tz : TS} {D : Ends} {x y : V} (h : ER te σ H (fun H' v => TN H' v [x, y])) (ha : ∀ H1, Ev ta σ H1 (.ref o)) (hb : ∀ H1, Ev tb σ H1 (.ref o)) (hi : H o = some (.ins C dx fs)) (c : Cls K C) (n1 : NoAttr K C f1) (n2 : NoAttr K C f2) (l1 : fs.length < 1000) (l2 : (putF f1 x fs).length < 1000)
    (k : ∀ H1, LtUp H H1 → (∀ B : Hp, B o = none → Ex B H → Ex B H1) → H1 o = some (.ins C dx (putF f2 y (putF f1 x fs))) → tz D σ H1) : tSeq (tAsg te (gTup K 2 (gCons (gFld K ta f1) (gCons (gFld K tb f2) gNil)))) tz D σ H :=
  h H (Ex.refl H) (fun v H1 => gTup K 2 (gCons (gFld K ta f1) (gCons (gFld K tb f2) gNil)) v σ H1 (tz D)) fun v H1 e1 ⟨a, h1, h2⟩ => ⟨a, [x, y], h1, st_of h2, rfl, x, [y], rfl, ha H1 H1 (Ex.refl H1) _ fun H2 e2 => ⟨o, C, dx, fs, rfl, e2 _ _ (e1 _ _ hi), c, n1, l1, y, [], rfl,
    hb _ _ (Ex.refl _) _ fun H3 e3 => ⟨o, C, dx, putF f1 x fs, rfl, e3 _ _ upd_same, c, n2, l2, rfl, by
      have i2 : H2 o = some (.ins C dx fs) := e2 _ _ (e1 _ _ hi)
      have i3 : H3 o = some (.ins C dx (putF f1 x fs)) := e3 _ _ upd_same
      refine k _ ((((Ex.lt (e1.trans e2)).trans (LtUp.ins i2)).trans (Ex.lt e3)).trans (LtUp.ins i3)) (fun B hB e => ?_) upd_same
      exact Ex.mut ((Ex.mut ((e.trans e1).trans e2) hB).trans e3) hB⟩⟩⟩
theorem ev_minI {K : PySem.W.Frag} {te : TE} {σ : L2.St} {H : Hp} {x : V} {ns : List Int} (h : Ev te σ H x) (hl : LR IsI H x ns) (hne : 0 < ns.length) : Ev (tCB (rMin K) (tCons te tNil)) σ H (.int (minL ns)) := by
  obtain ⟨a, rfl, h2⟩ := hl.ints
  exact fun H1 e Q k => h H1 e _ fun H2 e2 => ⟨a, ns, rfl, sq_of ((e.trans e2) _ _ h2), hne, fun m hm hle => by rw [minL_eq hm hle]; exact k H2 e2⟩
theorem ev_maxI {K : PySem.W.Frag} {te : TE} {σ : L2.St} {H : Hp} {x : V} {ns : List Int} (h : Ev te σ H x) (hl : LR IsI H x ns) (hne : 0 < ns.length) : Ev (tCB (rMax K) (tCons te tNil)) σ H (.int (maxL ns)) := by
  obtain ⟨a, rfl, h2⟩ := hl.ints
  exact fun H1 e Q k => h H1 e _ fun H2 e2 => ⟨a, ns, rfl, sq_of ((e.trans e2) _ _ h2), hne, fun m hm hle => by rw [maxL_eq hm hle]; exact k H2 e2⟩
theorem ev_sumR {K : PySem.W.Frag} {te : TE} {σ : L2.St} {H : Hp} {ns : List Int} (h : ER te σ H (fun H' v => LR IsI H' v ns)) : Ev (tCB (rSum K) (tCons te tNil)) σ H (.int ns.sum) := fun H1 e Q q =>
  h H1 e _ fun v H2 e2 r => by
    obtain ⟨a, rfl, hl⟩ := r.ints
    exact ⟨a, ns, rfl, sq_of hl, q H2 e2⟩
theorem ev_lenR {α : Type} {K : PySem.W.Frag} {S : Hp → V → α → Prop} {te : TE} {σ : L2.St} {H : Hp} {xs : List α} (h : ER te σ H (fun H' v => LR S H' v xs)) : Ev (tCB (Evl.rLenS K) (tCons te tNil)) σ H (.int (xs.length : Int)) := fun H1 e Q q =>
  h H1 e _ fun v H2 e2 ⟨a, vs, ea, h2, h3⟩ => by
    rw [← h3.1] at q
    exact ⟨a, vs, by rw [ea], Or.inl (sq_of h2), q H2 e2⟩
theorem tn_pairIf {α β : Type} {K : PySem.W.Frag} {S : Hp → V → α → Prop} {S' : Hp → V → β → Prop} {A B : Hp → V → Prop} {te : TE} {tt : TT} {σw : L2.St} {i j : Nat} {keep : α → Bool} {out : α → β} {x : α} {H : Hp} (hp : ∀ v H1, Ex H H1 → S H1 v x → ∃ y z, TN H1 v [y, z] ∧ A H1 y ∧ B H1 z) (hw : ∀ y z, wipe ((σw.set i (some y)).set j (some z)) [i, j] = σw)
    (ht : ∀ y z H1, Ex H H1 → A H1 y → B H1 z → EvT tt ((σw.set i (some y)).set j (some z)) H1 (keep x))
    (he : ∀ y z H1, Ex H H1 → A H1 y → B H1 z → keep x = true → ER te ((σw.set i (some y)).set j (some z)) H1 (fun H' w => S' H' w (out x))) :
    Tn S S' (gTup K 2 (gCons (gName i) (gCons (gName j) gNil))) tt te σw [i, j] keep out x H := fun v H1 e s => by
  obtain ⟨y, z, ⟨a, h1, h2⟩, ha, hb⟩ := hp v H1 e s
  exact ⟨(σw.set i (some y)).set j (some z), fun Q q => ⟨a, [y, z], h1, st_of h2, rfl, y, [z], rfl, z, [], rfl, rfl, q⟩, hw y z, ht y z H1 e ha hb, fun hk => he y z H1 e ha hb hk⟩
/-- deep data: pairs of points -/
def PPD (q : PP) : PyData := .tuple [PD q.1, PD q.2]
theorem dp_pp {K : PySem.W.Frag} {H : Hp} {v : V} {q : PP} (t : TPP H v q) : Dp K H v (PPD q) := by
  obtain ⟨a, x, y, rfl, h, h1, h2⟩ := t
  exact .tup (st_of h) (.cons (dp_t2 h1) (.cons (dp_t2 h2) .nil))
theorem dp_allpp {K : PySem.W.Frag} {H : Hp} : ∀ {vs : List V} {ps : List PP}, All2 (TPP H) vs ps → DpAll K H vs (ps.map PPD)
  | vs, [], h => by
    rw [All2.nil_inv h]
    exact .nil
  | vs, p :: ps, h => by
    obtain ⟨v, ws, rfl, h1, h2⟩ := h.uncons
    exact .cons (dp_pp h1) (dp_allpp h2)
theorem ppd_shaped (ps : List PP) : SeqAt.shaped (.list (ps.map PPD)) = true := by
  have h1 : PyData.canLayAll0 (ps.map PPD) = true := by
    induction ps with
    | nil => rfl
    | cons p r ih =>
      show (PyData.canLay0 (PPD p) && PyData.canLayAll0 (r.map PPD)) = true
      rw [ih]
      rfl
  have h2 : PyData.depthAll (ps.map PPD) ≤ 5 := by
    induction ps with
    | nil => simp [PyData.depthAll]
    | cons p r ih =>
      have ih := ih (by
        have h1 : (PyData.canLay0 (PPD p) && PyData.canLayAll0 (r.map PPD)) = true := h1
        rw [Bool.and_eq_true] at h1
        exact h1.2)
      rw [List.map_cons]
      simp only [PyData.depthAll]
      have : PyData.depth (PPD p) ≤ 5 := by
        simp [PPD, PD, PyData.depth, PyData.depthAll]
      omega
  show (PyData.canLayAll0 (ps.map PPD) && decide (PyData.depthAll (ps.map PPD) + 1 ≤ 64)) = true
  rw [h1, decide_eq_true (by omega)]
  rfl
/-- field != [] -/
theorem ev_neNil {K : PySem.W.Frag} {te : TE} {σ : L2.St} {H : Hp} {v : V} {ps : List PP} (h : Ev te σ H v) (hl : LR TPP H v ps) : Ev (tOp (rNeD K) te (tLst tNil)) σ H (.bl (!ps.isEmpty)) := fun H1 e Q q =>
  h H1 e _ fun H2 e2 => ⟨by decide, fun p hp => by
    obtain ⟨a, vs, rfl, h2, h3⟩ := mo_lr mo_tpp _ _ _ _ ((e.trans e2).trans (Ex.new hp)) hl
    refine ⟨.list (ps.map PPD), .list [], .lst (sq_of h2) (dp_allpp h3), .lst (sq_of upd_same) .nil, ppd_shaped ps, rfl, ?_⟩
    have e3 : PyData.eqv (.list (ps.map PPD)) (.list []) = ps.isEmpty := by
      cases ps with
      | nil => rfl
      | cons p r => simp [PyData.eqv, PyData.eqvAll]
    rw [e3]
    exact q _ (e2.trans (Ex.new hp))⟩
theorem field_ne {cs : List P2} (h : 1 ≤ cs.length) : (!(fieldM cs).isEmpty) = decide (cs.length > 2) := by
  unfold fieldM
  split
  · rename_i h2
    rw [decide_eq_true h2]
    have := pairs_len (cs := cs) (by omega)
    cases hp : pairsM cs with
    | nil =>
      rw [hp] at this
      simp at this
      omega
    | cons _ _ => rfl
  · rename_i h2
    rw [decide_eq_false h2]
    rfl
/-! ### how large the edges are -/
def EdOk (e : Edge) : Prop := Bd 700 e.1 ∧ Bd 700 e.2.1 ∧ Bd 700 e.2.2.1 ∧ Bd 700 e.2.2.2.1 ∧ Bd 700 e.2.2.2.2 ∧ 0 < e.2.2.1
theorem rup_bd {n : Nat} {a b : Int} (h : Bd n a) : Bd n (rup a b) := h.neg.fdiv.neg
theorem edges_ok {b : Int} (hb : 0 < b) (hb2 : Bd 100 b) : ∀ (S : List PP) (fst : Option Int), (∀ q ∈ S, BdP 210 q.1 ∧ BdP 210 q.2 ∧ q.1.2 < q.2.2) → (∀ x, fst = some x → Bd 300 x) → ∀ e ∈ edgesGo b fst S, EdOk e
  | [], _, _, _, e, he => by simp [edgesGo] at he
  | q :: S, fst, hS, hf, e, he => by
    obtain ⟨h1, h2, h3⟩ := hS q (List.mem_cons_self ..)
    rw [edgesGo] at he
    rcases List.mem_cons.mp he with rfl | he
    · have dw : Bd 211 (q.2.1 - q.1.1) := h2.1.sub1 h1.1
      have du : Bd 211 (q.2.2 - q.1.2) := h2.2.sub1 h1.2
      refine ⟨(hb2.mul dw).mono (by decide), ((h1.1.mul du).sub1 (h1.2.mul dw)).mono (by decide), (hb2.mul du).mono (by decide), ?_, (h2.2.fdiv).mono (by decide), Int.mul_pos hb (by omega)⟩
      cases fst with
      | none => exact (rup_bd h1.2).mono (by decide)
      | some x => exact (hf x rfl).mono (by decide)
    · refine edges_ok hb hb2 S _ (fun q hq => hS q (List.mem_cons_of_mem _ hq)) (fun x hx => ?_) e he
      cases hx
      exact (h2.2.fdiv.add Bd.one).mono (by decide)
end GF
set_option Elab.async false
set_option linter.all false
set_option maxRecDepth 100000
set_option maxHeartbeats 4000000
set_option exponentiation.threshold 100000
namespace GF
open PySem PySem.Spec PyProof.Rows L2 Evl
theorem sortM_mem {α : Type} {key : α → Int} {xs : List α} {q : α} (h : q ∈ sortM key xs) : q ∈ xs := by
  unfold sortM at h
  split at h
  · rename_i hx
    exact (Classical.choose_spec hx).1.mem_iff.mp h
  · cases h
def AllBd (cs : List P2) : Prop := ∀ p ∈ cs, BdP 210 p
theorem field_bd {cs : List P2} (h1 : 1 ≤ cs.length) (hb : AllBd cs) {q : PP} (hq : q ∈ fieldM cs) : BdP 210 q.1 ∧ BdP 210 q.2 := by
  unfold fieldM at hq
  split at hq
  · have h := pairs_mem h1 hq
    exact ⟨hb _ h.1, hb _ h.2⟩
  · cases hq
theorem rights_ok {b : Int} {cs : List P2} (hb : 0 < b) (hb2 : Bd 100 b) (h1 : 1 ≤ cs.length) (hc : AllBd cs) : ∀ e ∈ rightsM b cs, EdOk e := by
  refine edges_ok hb hb2 _ _ (fun q hq => ?_) (fun x z => by cases z)
  have hq := sortM_mem hq
  rw [List.mem_filter] at hq
  have h := field_bd h1 hc hq.1
  exact ⟨h.1, h.2, by simpa using hq.2⟩
theorem lefts_ok {b : Int} {cs : List P2} (hb : 0 < b) (hb2 : Bd 100 b) (h1 : 1 ≤ cs.length) (hc : AllBd cs) : ∀ e ∈ leftsM b cs, EdOk e := by
  refine edges_ok hb hb2 _ _ (fun q hq => ?_) (fun x z => by cases z)
  have hq := sortM_mem hq
  rw [List.mem_map] at hq
  obtain ⟨p, hp, rfl⟩ := hq
  rw [List.mem_filter] at hp
  have h := field_bd h1 hc hp.1
  exact ⟨h.2, h.1, by simpa using hp.2⟩
theorem field_len {cs : List P2} (h2 : cs.length ≤ 1000) : (fieldM cs).length ≤ 1000 := by
  unfold fieldM
  split
  · rw [pairs_len (by omega)]
    exact h2
  · exact Nat.zero_le _
section
variable {P : Program} {w : World} {K : PySem.W.Frag} {mg : Str → Option Value} {base : Heap} {f : Addr} {fd : FuncData}
def MoL (R : Hp → V → Prop) : Prop := ∀ H H' v, LtUp H H' → R H v → R H' v
theorem ml_lr {α : Type} {S : Hp → V → α → Prop} (m : MoT S) (xs : List α) : MoL fun H v => LR S H v xs := fun _ _ _ u h => lt_lr m u h
theorem ml_sp (x : Option Span) : MoL fun H v => TSp H v x := fun _ _ _ u h => mt_sp _ _ _ _ u.2 h
theorem q_fldU {tv ta : TE} {σ : L2.St} {H : Hp} {R : Hp → V → Prop} {f : Str} {o C dx : Addr} {fs : List (Str × V)} {tz : TS} {D : Ends} (h : ER tv σ H R) (ho : Ev ta σ H (.ref o)) (hi : H o = some (.ins C dx fs)) (c : Cls K C) (n : NoAttr K C f) (hl : fs.length < 1000) (mR : MoL R)
    (k : ∀ v H2, LtUp H H2 → (∀ B : Hp, B o = none → Ex B H → Ex B H2) → H2 o = some (.ins C dx (putF f v fs)) → R H2 v → tz D σ H2) : tSeq (sFld K ta tv f) tz D σ H :=
  q_fldR h ho hi c n hl (fun _ _ _ e r => mR _ _ _ (Ex.lt e) r) fun v H1 e r => k v _ ((Ex.lt e).trans (LtUp.ins (e _ _ hi))) (fun B hB b => Ex.mut (b.trans e) hB) upd_same (mR _ _ _ (LtUp.ins (e _ _ hi)) r)
theorem s_fldU {tv ta : TE} {σ : L2.St} {H : Hp} {R : Hp → V → Prop} {f : Str} {o C dx : Addr} {fs : List (Str × V)} {D : Ends} (h : ER tv σ H R) (ho : Ev ta σ H (.ref o)) (hi : H o = some (.ins C dx fs)) (c : Cls K C) (n : NoAttr K C f) (hl : fs.length < 1000) (mR : MoL R)
    (k : ∀ v H2, LtUp H H2 → (∀ B : Hp, B o = none → Ex B H → Ex B H2) → H2 o = some (.ins C dx (putF f v fs)) → R H2 v → D.nx σ H2) : sFld K ta tv f D σ H :=
  s_fldR h ho hi c n hl (fun _ _ _ e r => mR _ _ _ (Ex.lt e) r) fun v H1 e r => k v _ ((Ex.lt e).trans (LtUp.ins (e _ _ hi))) (fun B hB b => Ex.mut (b.trans e) hB) upd_same (mR _ _ _ (LtUp.ins (e _ _ hi)) r)
theorem tpp_tn {H : Hp} {v : V} {q : PP} (h : TPP H v q) : ∃ x y, TN H v [x, y] ∧ T2 H x q.1 ∧ T2 H y q.2 := by
  obtain ⟨a, x, y, h1, h2, h3, h4⟩ := h
  exact ⟨x, y, ⟨a, h1, h2⟩, h3, h4⟩
theorem t2_tn {H : Hp} {v : V} {p : Pt} (h : T2 H v p) : ∃ x y, TN H v [x, y] ∧ Is (.int p.1) H x ∧ Is (.int p.2) H y := ⟨_, _, h, rfl, rfl⟩
def spGInit (K : PySem.W.Frag) : Sp := fun vs H Q _ => ∃ (o dx C : Addr) (B : Hp) (vf : V) (q : Fen) (size : Int), vs = [.ref o, vf, .int size] ∧ CG K C ∧ H o = some (.ins C dx []) ∧ B o = none ∧ Ex B H ∧ FenV H vf q ∧ FenOk q ∧ Bd 105 size ∧ AllBd (scaleM size q.2.1) ∧ (∀ n, n < (pairsM (scaleM size q.2.1)).length → n < q.2.1.length → 2 ≤ q.2.1.length → SideOk (scaleM size q.2.1) n) ∧ q.2.2.length ≤ 1000 ∧ (∀ e ∈ q.2.2, e < q.2.1.length) ∧
  ∀ H', Ex B H' → GrAt H' o C q.1 (scaleM size q.2.1) q.2.2 → Q .non H'
theorem ok_Grown_init {C f2 fI fJ fL : Addr} {fd2 fdI fdJ fdL : FuncData} (T : SupTxt P K C f f2 "__init__" "Grown.__init__" (defArgs s_Grown_init) (defBody s_Grown_init) (defScope s_Grown_init) fd) (N : Nm mg) (cl : Cls K C)
    (F2 : FnOk P w K mg base CX0 2 f2 fd2 ["self", "fence", "size"] (spInit K)) (b2 : Binds K fd2 ["self", "fence", "size"] [])
    (u_round_up : Use P w K mg base "round_up" 1 ["top", "bottom"] spRup fI fdI) (u_edges_of : Use P w K mg base "edges_of" 4 ["bottom", "pairs"] spEdges fJ fdJ) (m_side_span : UseM P w K mg base C "side_span" 3 ["self", "side"] (spSideSpan K) fL fdL) :
    FnOk P w K mg base CX0 6 f fd ["self", "fence", "size"] (fun vs H Q E => spGInit K vs H Q E ∧ ∀ o dx C', vs.head? = some (.ref o) → H o = some (.ins C' dx []) → C' = C) :=
  fn_super (k := 5) T sc_Grown_init rfl (fun env => ⟨_, rfl⟩) (fun env => rfl) N.super (fun _ _ _ _ ⟨⟨_, _, _, _, _, _, _, h, _⟩, _⟩ => ⟨_, _, _, h⟩) (F2.mono (by decide)) b2 (fun cda cc A outer s H v0 v1 v2 Q E hr ⟨h, hCC⟩ => by
    obtain ⟨o, dx, C0, B, vf, q, size, hvs, cg, ho, hB, hBH, hf, hq, hsz, hall, hside, hssl, hss, k⟩ := h
    cases hvs
    obtain rfl := hCC o dx C0 rfl ho
    refine ⟨o, dx, [], _, rfl, ho, (pss_cons (ps_setLc (i := 3) (own := [("x", 4), ("y", 5)]) rfl sc_Grown_init.nd rfl rfl (sw_true rfl rfl rfl (by decide +kernel)) (pi_list (pe_fld (pv 0) rfl)) (blkOk_by (own := [("x", 4), ("y", 5)]) (N := ["self", "fence", "size", "heights", "x", "y", "field", "pair", "one", "two", "side"]) (sc := defScope s_Grown_init) (by decide +kernel)) (fun _ _ _ _ _ => (pg_tupK (K := K) (n := 2) rfl rfl (pgs_cons (pg_name (i := 4) sc_Grown_init.nd rfl (Or.inl rfl)) (pgs_cons (pg_name (i := 5) sc_Grown_init.nd rfl (Or.inl rfl)) pgs_nil)))) (fun _ _ _ _ _ => pts_nil) (fun _ _ _ _ _ => (pv 5))) (pss_cons (ps_asg (pe_tup (pa_cons (pe_call u_round_up.ok (hr.mono (by decide)) rfl u_round_up.g u_round_up.kp u_round_up.b .nil pass0 (pa_cons (pe_callB (cr_min rfl) (by rfl) N.min (by decide +kernel) (pa_cons (pv 3) pa_nil)) (pa_cons (pe_fld (pv 0) rfl) pa_nil))) (pa_cons (pe_op op_fdivX (pe_callB (cr_max rfl) (by rfl) N.max (by decide +kernel) (pa_cons (pv 3) pa_nil)) (pe_fld (pv 0) rfl)) pa_nil))) (pg_tup rfl (pgs_cons (pg_fld (pv 0)) (pgs_cons (pg_fld (pv 0)) pgs_nil)))) (pss_cons (ps_set (i := 6) sc_Grown_init.nd rfl (Or.inl rfl) (pe_ifExp (pt_cmpR op_gt (pe_callB call_len_seq (by rfl) N.len (by decide +kernel) (pa_cons (pe_fld (pv 0) rfl) pa_nil)) pe_int (nomark _)) (pe_fld (pv 0) rfl) (pe_lst pa_nil))) (pss_cons (ps_fld (pv 0) (pe_call u_edges_of.ok (hr.mono (by decide)) rfl u_edges_of.g u_edges_of.kp u_edges_of.b .nil pass0 (pa_cons (pe_fld (pv 0) rfl) (pa_cons (pe_lc (own := [("pair", 7)]) (g := gName 7) rfl sc_Grown_init.nd (pi_list (pv 6)) (blkOk_by (own := [("pair", 7)]) (N := ["self", "fence", "size", "heights", "x", "y", "field", "pair", "one", "two", "side"]) (sc := defScope s_Grown_init) (by decide +kernel)) (fun _ _ _ _ _ => (pg_name (i := 7) sc_Grown_init.nd rfl (Or.inl rfl))) (fun _ _ _ _ _ => (pts_one (pt_cmpR op_lt (pe_ix (ix_seqK (K := K) rfl) (pe_ix (ix_seqK (K := K) rfl) (pv 7) pe_int (fun _ _ => rfl)) pe_int (fun _ _ => rfl)) (pe_ix (ix_seqK (K := K) rfl) (pe_ix (ix_seqK (K := K) rfl) (pv 7) pe_int (fun _ _ => rfl)) pe_int (fun _ _ => rfl)) (nomark _)))) (fun _ _ _ _ _ => (pv 7))) pa_nil))) rfl) (pss_cons (ps_fld (pv 0) (pe_call u_edges_of.ok (hr.mono (by decide)) rfl u_edges_of.g u_edges_of.kp u_edges_of.b .nil pass0 (pa_cons (pe_fld (pv 0) rfl) (pa_cons (pe_lc (own := [("one", 8), ("two", 9)]) rfl sc_Grown_init.nd (pi_list (pv 6)) (blkOk_by (own := [("one", 8), ("two", 9)]) (N := ["self", "fence", "size", "heights", "x", "y", "field", "pair", "one", "two", "side"]) (sc := defScope s_Grown_init) (by decide +kernel)) (fun _ _ _ _ _ => (pg_tupK (K := K) (n := 2) rfl rfl (pgs_cons (pg_name (i := 8) sc_Grown_init.nd rfl (Or.inl rfl)) (pgs_cons (pg_name (i := 9) sc_Grown_init.nd rfl (Or.inl rfl)) pgs_nil)))) (fun _ _ _ _ _ => (pts_one (pt_cmpR op_gt (pe_ix (ix_seqK (K := K) rfl) (pv 8) pe_int (fun _ _ => rfl)) (pe_ix (ix_seqK (K := K) rfl) (pv 9) pe_int (fun _ _ => rfl)) (nomark _)))) (fun _ _ _ _ _ => (pe_tup (pa_cons (pv 9) (pa_cons (pv 8) pa_nil))))) pa_nil))) rfl) (pss_cons (ps_fld (pv 0) (pe_ifExp (pt_cmpR op_eq (pe_callB call_len_seq (by rfl) N.len (by decide +kernel) (pa_cons (pe_fld (pv 0) rfl) pa_nil)) pe_int (nomark _)) (pe_meth (pv 0) cl m_side_span.m m_side_span.ok (hr.mono (by decide)) m_side_span.b .nil pass0 (pa_cons pe_int pa_nil)) pe_non) rfl) (pss_one (ps_fld (pv 0) (pe_ifExp (pt_cmpR (op_neD hr.units) (pv 6) (pe_lst pa_nil) (by rfl)) (pe_lc (own := [("side", 10)]) (g := gName 10) rfl sc_Grown_init.nd (pi_list (pe_fld (pv 0) rfl)) (blkOk_by (own := [("side", 10)]) (N := ["self", "fence", "size", "heights", "x", "y", "field", "pair", "one", "two", "side"]) (sc := defScope s_Grown_init) (by decide +kernel)) (fun _ _ _ _ _ => (pg_name (i := 10) sc_Grown_init.nd rfl (Or.inl rfl))) (fun _ _ _ _ _ => pts_nil) (fun _ _ _ _ _ => (pe_meth (pv 0) cl m_side_span.m m_side_span.ok (hr.mono (by decide)) m_side_span.b .nil pass0 (pa_cons (pv 10) pa_nil)))) (pe_lst pa_nil)) rfl)))))))), ?_⟩
    have hlen : (scaleM size q.2.1).length = q.2.1.length := by rw [scaleM, List.length_map]
    have hq0 := hq
    obtain ⟨q1, q2, q3, q4, q5⟩ := hq
    have hq1 : q.1 ≠ 0 := by omega
    generalize hcs : scaleM size q.2.1 = cs at *
    refine ⟨o, dx, C0, B, v1, q, size, rfl, cg.toCF, ho, hB, hBH, hf, hq0, hsz, fun H1 vc vs vp b1 h1 rc rs rp => ?_⟩
    rw [hcs] at rc rp
    have hcl : 1 ≤ cs.length := by omega
    have vO : ∀ {σ : L2.St} {H' : Hp}, σ[0]? = some (some (.ref o)) → Ev (tVar 0) σ H' (.ref o) := fun hs => ev_var hs
    -- heights
    refine q_asgR (R := fun H' v => LR IsI H' v (cs.map Prod.snd)) ?_ fun vh H2 e2 rh => ?_
    · rw [← fil_true cs]
      refine er_lc (S := T2) (S' := IsI) (fun _ => true) (fun p : P2 => p.2) mo_t2 mt_int (er_ev (ev_fld (ev_var rfl) h1 cg.cl cg.nc rfl) fun H3 e3 => mo_lr mo_t2 _ _ _ _ e3 rc) (by omega) fun p H3 hp e3 => tn_pair (fun v H4 e4 s => t2_tn s) (fun _ _ => rfl) fun y z H4 e4 ey ez => ?_
      cases ez
      exact er_ev (ev_var rfl) fun _ _ => rfl
    have h2 := e2 _ _ h1
    have b2' := b1.trans e2
    have rc2 := mo_lr mo_t2 _ _ _ _ e2 rc
    have rs2 := mo_lr mt_n.mo _ _ _ _ e2 rs
    have rp2 := mo_lr mo_tpp _ _ _ _ e2 rp
    have hhl : 0 < (cs.map Prod.snd).length := by rw [List.length_map]; omega
    -- lowest, highest
    refine q_fld2 (x := .int (lowM q.1 cs)) (y := .int (highM q.1 cs)) (er_tn (ea2 (ev_er (er_use (minL (cs.map Prod.snd), q.1) (ea2 (ev_minI (ev_var rfl) rh hhl) (ev_fld (ev_var rfl) h2 cg.cl cg.nb rfl)) fun _ _ => ⟨rfl, hq1, q2.mono (by decide)⟩)) (ev_op (ev_maxI (ev_var rfl) rh hhl) (ev_fld (ev_var rfl) h2 cg.cl cg.nb rfl) (rv_I (cdivB hq1 q2 (by decide))))) (by simp)) (fun _ => ev_var rfl) (fun _ => ev_var rfl) h2 cg.cl cg.nl cg.nh (Nat.le_of_ble_eq_true rfl) (Nat.le_of_ble_eq_true rfl) fun H3 u3 b3 h3 => ?_
    have b3 := b3 B hB b2'
    have rc3 := lt_lr mt_t2 u3 rc2
    have rs3 := lt_lr mt_n u3 rs2
    have rp3 := lt_lr mt_tpp u3 rp2
    -- field
    refine q_asgR (R := fun H' v => LR TPP H' v (fieldM cs)) (er_if (et_test (ev_op (ev_lenL (ev_fld (ev_var rfl) h3 cg.cl cg.nc rfl) rc3) ev_c rv_I0)) (fun hb => ?_) (fun hb => ?_)) fun vfl H4 e4 rf => ?_
    · have hb : (cs.length : Int) > 2 := of_decide_eq_true hb
      rw [fieldM, if_pos (by omega)]
      exact er_ev (ev_fld (ev_var rfl) h3 cg.cl cg.np rfl) fun H5 e5 => mo_lr mo_tpp _ _ _ _ e5 rp3
    · have hb : ¬ (cs.length : Int) > 2 := of_decide_eq_false hb
      rw [fieldM, if_neg (by omega)]
      exact er_l2 (S := TPP) ar_nil2 mo_tpp (by simp)
    have h4 := e4 _ _ h3
    have b4 := b3.trans e4
    have rc4 := mo_lr mo_t2 _ _ _ _ e4 rc3
    have rs4 := mo_lr mt_n.mo _ _ _ _ e4 rs3
    have rp4 := mo_lr mo_tpp _ _ _ _ e4 rp3
    have hfl := field_len (cs := cs) (by omega)
    -- rights
    refine q_fldU (R := fun H' v => LR TE5 H' v (rightsM q.1 cs)) (er_call (α := Int × List PP) (q.1, (fieldM cs).filter fun q : PP => decide (q.1.2 < q.2.2)) (ar_cons (er_is (ev_fld (ev_var rfl) h4 cg.cl cg.nb rfl)) mo_is (ar_cons (R := fun H' v => LR TPP H' v ((fieldM cs).filter fun q : PP => decide (q.1.2 < q.2.2))) ?_ ((mo_lr mo_tpp).at _) ar_nil)) ?_) (ev_var rfl) h4 cg.cl cg.nr (Nat.le_of_ble_eq_true rfl) (ml_lr mt_e5 _) fun vr H5 u5 b5 h5 rr => ?_
    · have hh := er_lc (K := K) (H := H4) (S := TPP) (S' := TPP) (g := gName 7) (tl := tVar 6) (te := tVar 7) (own := [7]) (σ := [some (.ref o), some v1, some (.int size), some vh, none, none, some vfl, none, none, none, none]) (tt := tTest (tOp (rI0 fun i j => .bl (decide (i < j))) (tOp (rIx K) (tOp (rIx K) (tVar 7) (tC (.int 0))) (tC (.int 1))) (tOp (rIx K) (tOp (rIx K) (tVar 7) (tC (.int 1))) (tC (.int 1))))) (xs := fieldM cs) (fun q : PP => decide (q.1.2 < q.2.2)) (fun q : PP => q) mo_tpp mt_tpp (er_var rfl ((mo_lr mo_tpp).at _) rf) (by omega) fun q H5 hq e5 => tn_nameIf (fun _ => rfl) (fun v H6 e6 s => ?_) (fun v H6 e6 s _ => er_var rfl (mo_tpp.at _) s)
      · rw [List.map_id'] at hh
        exact hh
      · obtain ⟨x, y, c1, c2, c3⟩ := tpp_tn s
        exact et_test (ev_op (ev_y (ev_ixt (ev_var rfl) c1 ev_c rfl) c2) (ev_y (ev_ixt (ev_var rfl) c1 ev_c rfl) c3) rv_I0)
    · rintro H5 vs e5 ⟨v, ws, rfl, rfl, x, _, rfl, hx, rfl⟩
      exact ⟨x, rfl, hx, q1, q2, Nat.le_trans (List.length_filter_le _ _) hfl, fun q hq => field_bd hcl hall (List.mem_filter.mp hq).1⟩
    have b5 := b5 B hB b4
    have rc5 := lt_lr mt_t2 u5 rc4
    have rs5 := lt_lr mt_n u5 rs4
    have rp5 := lt_lr mt_tpp u5 rp4
    have rf5 := lt_lr mt_tpp u5 rf
    -- lefts
    refine q_fldU (R := fun H' v => LR TE5 H' v (leftsM q.1 cs)) (er_call (α := Int × List PP) (q.1, ((fieldM cs).filter fun q : PP => decide (q.1.2 > q.2.2)).map fun q : PP => (q.2, q.1)) (ar_cons (er_is (ev_fld (ev_var rfl) h5 cg.cl cg.nb rfl)) mo_is (ar_cons (R := fun H' v => LR TPP H' v (((fieldM cs).filter fun q : PP => decide (q.1.2 > q.2.2)).map fun q : PP => (q.2, q.1))) ?_ ((mo_lr mo_tpp).at _) ar_nil)) ?_) (ev_var rfl) h5 cg.cl cg.ne (Nat.le_of_ble_eq_true rfl) (ml_lr mt_e5 _) fun vl H6 u6 b6 h6 rl => ?_
    · refine er_lc (S := TPP) (S' := TPP) (xs := fieldM cs) (fun q : PP => decide (q.1.2 > q.2.2)) (fun q : PP => (q.2, q.1)) mo_tpp mt_tpp (er_var rfl ((mo_lr mo_tpp).at _) rf5) (by omega) fun q H5 hq e5 => tn_pairIf (A := fun H v => T2 H v q.1) (B := fun H v => T2 H v q.2) (fun v H6 e6 s => tpp_tn s) (fun _ _ => rfl) (fun y z H6 e6 ty tz => et_test (ev_op (ev_y (ev_var rfl) ty) (ev_y (ev_var rfl) tz) rv_I0)) (fun y z H6 e6 ty tz _ => er_pp (ev_var rfl) (ev_var rfl) tz ty)
    · rintro H6 vs e6 ⟨v, ws, rfl, rfl, x, _, rfl, hx, rfl⟩
      refine ⟨x, rfl, hx, q1, q2, by rw [List.length_map]; exact Nat.le_trans (List.length_filter_le _ _) hfl, fun q hq => ?_⟩
      obtain ⟨p, hp, rfl⟩ := List.mem_map.mp hq
      have := field_bd hcl hall (List.mem_filter.mp hp).1
      exact ⟨this.2, this.1⟩
    have b6 := b6 B hB b5
    have rc6 := lt_lr mt_t2 u6 rc5
    have rs6 := lt_lr mt_n u6 rs5
    have rp6 := lt_lr mt_tpp u6 rp5
    have rf6 := lt_lr mt_tpp u6 rf5
    have rr6 := lt_lr mt_e5 u6 rr
    have hpos : 0 < q.1 := q1
    have hout : ∀ (H' : Hp) (C1 dx1 : Addr) (fs : List (Str × V)), H' o = some (.ins C1 dx1 fs) → LR T2 H' vc cs → LR IsN H' vs q.2.2 → LR TPP H' vp (pairsM cs) → fs.lookup ("bottom" : Str) = some (.int q.1) → fs.lookup ("corners" : Str) = some vc → fs.lookup ("shut" : Str) = some vs → fs.lookup ("pairs" : Str) = some vp → (∀ m ∈ mths, fs.lookup m = none) → OutAt H' o C1 q.1 cs q.2.2 := fun H' C1 dx1 fs a1 a2 a3 a4 c1 c2 c3 c4 c5 => ⟨dx1, fs, vc, vs, vp, a1, c1, c2, c3, c4, a2, a3, a4, c5⟩
    have hn2 : (2 : Nat) ≤ cs.length → 0 < (pairsM cs).length := fun h2 => by
      unfold pairsM
      split
      · simp
      · rw [List.length_zip, List.length_append, List.length_drop, List.length_take]
        omega
    -- whole
    refine q_fldU (R := fun H' v => TSp H' v (wholeM q.1 cs)) (er_if (et_test (ev_op (ev_lenL (ev_fld (ev_var rfl) h6 cg.cl cg.nc rfl) rc6) ev_c rv_eqI)) (fun hb => ?_) (fun hb => ?_)) (ev_var rfl) h6 cg.cl cg.nw (Nat.le_of_ble_eq_true rfl) (ml_sp _) fun vw H7 u7 b7 h7 rw7 => ?_
    · have hb : (cs.length : Int) = 2 := of_decide_eq_true hb
      have hb : cs.length = 2 := by omega
      rw [wholeM, if_pos hb]
      refine er_meth (o, C0, q.1, cs, q.2.2, 0) (ev_var rfl) h6 rfl (ea1 ev_c) fun H7 e7 => ⟨rfl, cg.toCF, mo_out e7 (hout _ _ _ _ h6 rc6 rs6 rp6 rfl rfl rfl rfl (fun m hm => ?_)), hside 0 (hn2 (by omega)) (by omega) (by omega), hpos, q2⟩
      simp only [mths, List.mem_cons, List.not_mem_nil, or_false] at hm
      rcases hm with rfl | rfl | rfl | rfl | rfl | rfl | rfl <;> rfl
    · have hb : ¬ (cs.length : Int) = 2 := of_decide_eq_false hb
      rw [wholeM, if_neg (by omega)]
      exact er_ev ev_c fun _ _ => rfl
    have b7 := b7 B hB b6
    have rc7 := lt_lr mt_t2 u7 rc6
    have rs7 := lt_lr mt_n u7 rs6
    have rp7 := lt_lr mt_tpp u7 rp6
    have rf7 := lt_lr mt_tpp u7 rf6
    have rr7 := lt_lr mt_e5 u7 rr6
    have rl7 := lt_lr mt_e5 u7 rl
    -- spans
    refine s_fldU (R := fun H' v => LR TSp H' v (spansM q.1 cs q.2.2)) (er_if (et_test (ev_neNil (ev_var rfl) rf7)) (fun hb => ?_) (fun hb => ?_)) (ev_var rfl) h7 cg.cl cg.nsp (Nat.le_of_ble_eq_true rfl) (ml_lr mt_sp _) fun vsp H8 u8 b8 h8 rsp => ?_
    · rw [field_ne hcl] at hb
      have hb := of_decide_eq_true hb
      rw [spansM, if_pos hb, ← fil_true q.2.2]
      have h3l : 3 ≤ cs.length := by omega
      refine er_lc (S := IsN) (S' := TSp) (xs := q.2.2) (fun _ => true) (spanAt q.1 cs) mt_n.mo mt_sp (er_ev (ev_fld (ev_var rfl) h7 cg.cl cg.ns rfl) fun H3 e3 => mo_lr mt_n.mo _ _ _ _ e3 rs7) (by omega) fun e H8 he e8 => tn_name (fun _ => rfl) fun u H9 e9 su => ?_
      cases su
      have hel : e < cs.length := by rw [hlen]; exact hss e he
      refine er_meth (o, C0, q.1, cs, q.2.2, e) (ev_var rfl) ((e8.trans e9) _ _ h7) rfl (ea1 (ev_var rfl)) fun H10 e10 => ⟨rfl, cg.toCF, mo_out ((e8.trans e9).trans e10) (hout _ _ _ _ h7 rc7 rs7 rp7 rfl rfl rfl rfl (fun m hm => ?_)), hside e (by rw [pairs_len h3l]; exact hel) (hss e he) (by omega), hpos, q2⟩
      simp only [mths, List.mem_cons, List.not_mem_nil, or_false] at hm
      rcases hm with rfl | rfl | rfl | rfl | rfl | rfl | rfl <;> rfl
    · rw [field_ne hcl] at hb
      have hb := of_decide_eq_false hb
      rw [spansM, if_neg hb]
      exact er_l2 (S := TSp) ar_nil2 mt_sp.mo (by simp)
    have rc8 := lt_lr mt_t2 u8 rc7
    have rs8 := lt_lr mt_n u8 rs7
    have rp8 := lt_lr mt_tpp u8 rp7
    have rr8 := lt_lr mt_e5 u8 rr7
    have rl8 := lt_lr mt_e5 u8 rl7
    exact k H8 (b8 B hB b7) ⟨dx, vc, vs, vp, vr, vl, vw, vsp, h8, rc8, rs8, rp8, rr8, rl8, mt_sp _ _ _ _ u8.2 rw7, rsp⟩)
end
end GF
set_option Elab.async false
set_option linter.all false
set_option maxRecDepth 100000
set_option maxHeartbeats 4000000
set_option exponentiation.threshold 100000
namespace GF
open PySem PySem.Spec PyProof.Rows L2 Evl
theorem fmod_prev {n s : Nat} (hn : 0 < n) : ((s : Int) - 1).fmod (n : Int) = ((prevM n s : Nat) : Int) := by
  rw [Int.fmod_eq_emod_of_nonneg _ (by omega), prevM, Int.natCast_emod]
  have e : ((s + (n - 1) : Nat) : Int) = ((s : Int) - 1) + n := by omega
  rw [e, Int.add_emod_right]
theorem inV_nat (k : Nat) (ss : List Nat) : inV (.int (k : Int)) (ss.map fun n : Nat => V.int (n : Int)) = decide (k ∈ ss) := by
  unfold inV
  rw [List.any_map]
  induction ss with
  | nil => rfl
  | cons a r ih =>
    rw [List.any_cons, ih]
    show ((a : Int) == (k : Int) || decide (k ∈ r)) = _
    by_cases h : a = k
    · subst h
      simp
    · have h2 : ((a : Int) == (k : Int)) = false := beq_eq_false_iff_ne.mpr (by omega)
      rw [h2, Bool.false_or]
      have h3 : ¬ k = a := fun z => h z.symm
      simp [h3]
theorem flat_nats (ss : List Nat) : (ss.map fun n : Nat => V.int (n : Int)).all flatV = true := by
  rw [List.all_map, List.all_eq_true]
  exact fun _ _ => rfl
/-- n in a list of counts -/
theorem ev_inN {K : PySem.W.Frag} {ta tb : TE} {σ : L2.St} {H : Hp} {k : Nat} {v : V} {ss : List Nat} (h : Ev ta σ H (.int (k : Int))) (h2 : Ev tb σ H v) (hl : LR IsN H v ss) : Ev (tOp (rIn K false) ta tb) σ H (.bl (decide (k ∈ ss))) := by
  obtain ⟨a, rfl, ha⟩ := hl.nats
  rw [← inV_nat]
  exact ev_op h h2 (rv_isL (sq_of ha) rfl (flat_nats ss))
theorem ev_niN {K : PySem.W.Frag} {ta tb : TE} {σ : L2.St} {H : Hp} {k : Nat} {v : V} {ss : List Nat} (h : Ev ta σ H (.int (k : Int))) (h2 : Ev tb σ H v) (hl : LR IsN H v ss) : Ev (tOp (rIn K true) ta tb) σ H (.bl (!decide (k ∈ ss))) := by
  obtain ⟨a, rfl, ha⟩ := hl.nats
  rw [← inV_nat]
  exact ev_op h h2 (rv_niL (sq_of ha) rfl (flat_nats ss))
theorem sort_len40 {α : Type} {key : α → Int} {xs : List α} (h : xs.length ≤ 1000) : (sortM key xs).length ≤ 40000 := by
  unfold sortM
  split
  · rename_i hx
    rw [(Classical.choose_spec hx).1.length_eq]
    omega
  · exact Nat.zero_le _
section
variable {P : Program} {w : World} {K : PySem.W.Frag} {mg : Str → Option Value} {base : Heap} {f : Addr} {fd : FuncData}
abbrev GA := Addr × Int × List P2 × List Nat × Option Int
def GPre (K : PySem.W.Frag) (C : Addr) (a : GA) (H : Hp) (vs : List V) : Prop := vs = [.ref a.1, rowV a.2.2.2.2] ∧ CG K C ∧ GrAt H a.1 C a.2.1 a.2.2.1 a.2.2.2.1 ∧ 1 ≤ a.2.2.1.length ∧ a.2.2.1.length ≤ 1000 ∧ a.2.2.2.1.length ≤ 1000 ∧ (∀ e ∈ a.2.2.2.1, e < a.2.2.1.length) ∧ 0 < a.2.1 ∧ Bd 100 a.2.1 ∧ AllBd a.2.2.1 ∧ ∀ r, a.2.2.2.2 = some r → Bd 700 r
def spClosed (K : PySem.W.Frag) (C : Addr) : Sp := mkSp (GPre K C) (fun a _ v => v = .int (closedM a.2.1 a.2.2.1 a.2.2.2.2))
theorem et_isNone {te : TE} {σ : L2.St} {H : Hp} {row : Option Int} (h : Ev te σ H (rowV row)) : EvT (tTest (tOp (fun x y H Q => y = .non ∧ Q (.bl (decide (x = .non))) H) te (tC .non))) σ H row.isNone := by
  cases row <;> exact et_test (ev_op h ev_c fun H1 _ Q q => ⟨rfl, q H1 (Ex.refl H1)⟩)
theorem pair0_mem {cs : List P2} (h : 1 ≤ cs.length) : (pairAt cs 0).1 ∈ cs ∧ (pairAt cs 0).2 ∈ cs := by
  have hp : 0 < (pairsM cs).length := by
    unfold pairsM
    split
    · simp
    · rw [List.length_zip, List.length_append, List.length_drop, List.length_take]
      omega
  exact pairs_mem h (List.mem_of_getElem? (pair_get hp))
theorem sc_Grown_closed_below : FnScope ["self", "row", "last", "found", "edge"] ["self", "row"] (defScope s_Grown_closed_below) := ⟨rfl, rfl, rfl, by decide +kernel, rfl, by decide +kernel, by decide +kernel⟩
theorem ok_closed_below (F : FnM K "closed_below" "Grown.closed_below" s_Grown_closed_below f fd) (N : Nm mg) {C fI fJ fL : Addr} {fdI fdJ fdL : FuncData} (cl : Cls K C) (m_is_corner_stake : UseM P w K mg base C "is_corner_stake" 1 ["self", "spot", "row"] (spStake K) fI fdI)
    (u_span_count : Use P w K mg base "span_count" 2 ["span", "row"] spSpanCnt fJ fdJ) (u_edge_sum : Use P w K mg base "edge_sum" 2 ["edge", "row", "sign"] spEdgeSum fL fdL) : FnOk P w K mg base CX0 3 f fd ["self", "row"] (spClosed K C) :=
  F.ok sc_Grown_closed_below (len_mk fun _ _ _ h => by rw [h.1]; rfl) (fun cdv A outer s H vs Q E hr h => ⟨_, PSs.nox (pss_cons (ps_if (pt_cmpR op_eq (pe_callB call_len_seq (by rfl) N.len (by decide +kernel) (pa_cons (pe_fld (pv 0) rfl) pa_nil)) pe_int (nomark _)) (pss_one (ps_ret (pe_callTy call_int1 (by rfl) N.int (by decide +kernel) (pa_cons (pe_meth (pv 0) cl m_is_corner_stake.m m_is_corner_stake.ok (hr.mono (by decide)) m_is_corner_stake.b .nil pass0 (pa_cons pe_int (pa_cons (pv 1) pa_nil))) pa_nil)))) pss_nil) (pss_cons (ps_if (pt_cmpR op_eq (pe_callB call_len_seq (by rfl) N.len (by decide +kernel) (pa_cons (pe_fld (pv 0) rfl) pa_nil)) pe_int (nomark _)) (pss_one (ps_ret (pe_call u_span_count.ok (hr.mono (by decide)) rfl u_span_count.g u_span_count.kp u_span_count.b .nil pass0 (pa_cons (pe_fld (pv 0) rfl) (pa_cons (pv 1) pa_nil))))) pss_nil) (pss_cons (ps_set (i := 2) sc_Grown_closed_below.nd rfl (Or.inl rfl) (pe_ifExp (pt_cmpR op_isN (pv 1) pe_non (nomark _)) (pe_fld (pv 0) rfl) (pe_callB (call_min2 rfl) (by rfl) N.min (by decide +kernel) (pa_cons (pe_fld (pv 0) rfl) (pa_cons (pv 1) pa_nil))))) (pss_cons (ps_if (pt_cmpR op_lt (pv 2) (pe_fld (pv 0) rfl) (nomark _)) (pss_one (ps_ret pe_int)) pss_nil) (pss_cons (ps_set (i := 3) sc_Grown_closed_below.nd rfl (Or.inl rfl) (pe_op op_add (pe_op op_sub (pv 2) (pe_fld (pv 0) rfl)) pe_int)) (pss_cons (ps_aug (i := 3) sc_Grown_closed_below.nd rfl (Or.inl rfl) (pe_callB (cr_sum rfl) (by rfl) N.sum (by decide +kernel) (pa_cons (pe_lc (own := [("edge", 4)]) (g := gName 4) rfl sc_Grown_closed_below.nd (pi_list (pe_fld (pv 0) rfl)) (blkOk_by (own := [("edge", 4)]) (N := ["self", "row", "last", "found", "edge"]) (sc := defScope s_Grown_closed_below) (by decide +kernel)) (fun _ _ _ _ _ => (pg_name (i := 4) sc_Grown_closed_below.nd rfl (Or.inl rfl))) (fun _ _ _ _ _ => pts_nil) (fun _ _ _ _ _ => (pe_call u_edge_sum.ok (hr.mono (by decide)) rfl u_edge_sum.g u_edge_sum.kp u_edge_sum.b .nil pass0 (pa_cons (pv 4) (pa_cons (pv 1) (pa_cons pe_int pa_nil)))))) pa_nil)) ip_add) (pss_one (ps_ret (pe_op op_add (pv 3) (pe_callB (cr_sum rfl) (by rfl) N.sum (by decide +kernel) (pa_cons (pe_lc (own := [("edge", 4)]) (g := gName 4) rfl sc_Grown_closed_below.nd (pi_list (pe_fld (pv 0) rfl)) (blkOk_by (own := [("edge", 4)]) (N := ["self", "row", "last", "found", "edge"]) (sc := defScope s_Grown_closed_below) (by decide +kernel)) (fun _ _ _ _ _ => (pg_name (i := 4) sc_Grown_closed_below.nd rfl (Or.inl rfl))) (fun _ _ _ _ _ => pts_nil) (fun _ _ _ _ _ => (pe_call u_edge_sum.ok (hr.mono (by decide)) rfl u_edge_sum.g u_edge_sum.kp u_edge_sum.b .nil pass0 (pa_cons (pv 4) (pa_cons (pv 1) (pa_cons (pe_un un_neg pe_int) pa_nil)))))) pa_nil))))))))))), by
    obtain ⟨⟨o, b, cs, ss, row⟩, ⟨rfl, cg, hg, l1, l2, l3, hss, hb, hb2, hall, hrow⟩, k⟩ := h
    have hg : GrAt H o C b cs ss := hg
    have hout := gr_out hg
    have l1 : 1 ≤ cs.length := l1
    have l2 : cs.length ≤ 1000 := l2
    have hb : 0 < b := hb
    have hb0 : b ≠ 0 := by omega
    have hall : AllBd cs := hall
    obtain ⟨dx, vc, vs, vp, vr, vl, vw, vsp, h1, rc, rs, rp, rr, rl, rw1, rsp⟩ := hg
    have ecl : ∀ r, closedM b cs row = r → ∀ H1, Ex H H1 → Q (.int r) H1 := fun r hr H1 e => k _ _ e (congrArg V.int hr.symm)
    refine q_when (et_test (ev_op (ev_lenL (ev_fld (ev_var rfl) h1 cg.cl cg.nc rfl) rc) ev_c rv_eqI)) (fun hc H1 e1 => ?_) (fun hc H1 e1 => ?_)
    · have hc : (cs.length : Int) = 1 := of_decide_eq_true hc
      have hc : cs.length = 1 := by omega
      refine s_ret (ev_int (ev_er (er_meth (o, C, b, cs, ss, 0, row) (ev_var rfl) (e1 _ _ h1) rfl (ea2 ev_c (ev_var rfl)) fun H2 e2 => ⟨rfl, cg.toCF, mo_out (e1.trans e2) hout, by show 0 < cs.length; omega, hb0, hb2, hrow⟩))) fun H2 e2 => ecl _ ?_ _ (e1.trans e2)
      unfold closedM
      rw [if_pos hc]
    have hc : ¬ (cs.length : Int) = 1 := of_decide_eq_false hc
    refine q_when (et_test (ev_op (ev_lenL (ev_fld (ev_var rfl) (e1 _ _ h1) cg.cl cg.nc rfl) (mo_lr mo_t2 _ _ _ _ e1 rc)) ev_c rv_eqI)) (fun hc2 H2 e2 => ?_) (fun hc2 H2 e2 => ?_)
    · have hc2 : (cs.length : Int) = 2 := of_decide_eq_true hc2
      have hc2 : cs.length = 2 := by omega
      have e12 := e1.trans e2
      rw [wholeM, if_pos hc2] at rw1
      have hm := pair0_mem l1
      refine s_retR (er_use (spanAt b cs 0, row) (ea2 (ev_fld (ev_var rfl) (e12 _ _ h1) cg.cl cg.nw rfl) (ev_var rfl)) fun H3 e3 => ⟨vw, rfl, mt_sp.mo _ _ _ _ (e12.trans e3) rw1, fun s hs => span_rise (hall _ hm.1) (hall _ hm.2) hs⟩) fun u H3 e3 r => ?_
      have e4 : closedM b cs row = spanCnt (spanAt b cs 0) row := by
        unfold closedM
        rw [if_neg (by omega), if_pos hc2]
      have r : u = V.int (spanCnt (spanAt b cs 0) row) := r
      rw [r]
      exact ecl _ e4 _ (e12.trans e3)
    have hc2 : ¬ (cs.length : Int) = 2 := of_decide_eq_false hc2
    have e12 := e1.trans e2
    have h2 := e12 _ _ h1
    have cl3 : closedM b cs row = if lastM b cs row < lowM b cs then 0 else lastM b cs row - lowM b cs + 1 + ((rightsM b cs).map fun e => edgeSumM e row 1).sum + ((leftsM b cs).map fun e => edgeSumM e row (-1)).sum := by
      unfold closedM
      rw [if_neg (by omega), if_neg (by omega)]
    refine q_asg (v := .int (lastM b cs row)) (ev_if (et_isNone (ev_var rfl)) (fun hn => ?_) (fun hn => ?_)) fun H3 e3 => ?_
    · obtain rfl : row = none := by simpa using hn
      exact ev_fld (ev_var rfl) h2 cg.cl cg.nh rfl
    · cases row with
      | none => cases hn
      | some r => exact ev_min2 (ev_fld (ev_var rfl) h2 cg.cl cg.nh rfl) (ev_var rfl)
    have h3 := e3 _ _ h2
    refine q_when (et_test (ev_op (ev_var rfl) (ev_fld (ev_var rfl) h3 cg.cl cg.nl rfl) rv_I0)) (fun hlt H4 e4 => ?_) (fun hlt H4 e4 => ?_)
    · have hlt : lastM b cs row < lowM b cs := of_decide_eq_true hlt
      rw [if_pos hlt] at cl3
      exact s_ret ev_c fun H5 e5 => ecl _ cl3 _ (((e12.trans e3).trans e4).trans e5)
    have hlt : ¬ lastM b cs row < lowM b cs := of_decide_eq_false hlt
    rw [if_neg hlt] at cl3
    have e14 := (e12.trans e3).trans e4
    have h4 := e14 _ _ h1
    refine q_asg (ev_op (ev_op (ev_var rfl) (ev_fld (ev_var rfl) h4 cg.cl cg.nl rfl) rv_I0) ev_c rv_I0) fun H5 e5 => ?_
    have e15 := e14.trans e5
    have h5 := e15 _ _ h1
    have rr5 := mo_lr mt_e5.mo _ _ _ _ e15 rr
    have rl5 := mo_lr mt_e5.mo _ _ _ _ e15 rl
    have hr1 : (rightsM b cs).length ≤ 40000 := by
      unfold rightsM edgesM
      rw [edges_len]
      exact sort_len40 (Nat.le_trans (List.length_filter_le _ _) (field_len l2))
    have hl1 : (leftsM b cs).length ≤ 40000 := by
      unfold leftsM edgesM
      rw [edges_len]
      exact sort_len40 (by rw [List.length_map]; exact Nat.le_trans (List.length_filter_le _ _) (field_len l2))
    refine q_aug (a := lastM b cs row - lowM b cs + 1) (b := ((rightsM b cs).map fun e => edgeSumM e row 1).sum) rfl (ev_sumR ?_) fun H6 e6 => ?_
    · rw [← fil_true (rightsM b cs)]
      refine er_lc (S := TE5) (S' := IsI) (xs := rightsM b cs) (fun _ => true) (fun e => edgeSumM e row 1) mt_e5.mo mt_int (er_ev (ev_fld (ev_var rfl) h5 cg.cl cg.nr rfl) fun H7 e7 => mo_lr mt_e5.mo _ _ _ _ e7 rr5) hr1 fun e H7 he e7 => tn_name (fun _ => rfl) fun u H8 e8 su => ?_
      have hk := rights_ok hb hb2 l1 hall e he
      exact er_use (e, row, 1) (ea3 (ev_var rfl) (ev_var rfl) ev_c) fun H9 e9 => ⟨u, rfl, mt_e5.mo _ _ _ _ e9 su, Or.inl rfl, hk.1, hk.2.1, hk.2.2.1, hk.2.2.2.1, hk.2.2.2.2.1, hk.2.2.2.2.2, hrow⟩
    have e16 := e15.trans e6
    have h6 := e16 _ _ h1
    have rl6 := mo_lr mt_e5.mo _ _ _ _ e6 rl5
    refine s_ret (ev_op (ev_var rfl) (ev_sumR (ns := (leftsM b cs).map fun e => edgeSumM e row (-1)) ?_) rv_I0) fun H7 e7 => ecl _ cl3 _ (e16.trans e7)
    rw [← fil_true (leftsM b cs)]
    refine er_lc (S := TE5) (S' := IsI) (xs := leftsM b cs) (fun _ => true) (fun e => edgeSumM e row (-1)) mt_e5.mo mt_int (er_ev (ev_fld (ev_var rfl) h6 cg.cl cg.ne rfl) fun H7 e7 => mo_lr mt_e5.mo _ _ _ _ e7 rl6) hl1 fun e H7 he e7 => tn_name (fun _ => rfl) fun u H8 e8 su => ?_
    have hk := lefts_ok hb hb2 l1 hall e he
    exact er_use (e, row, -1) (ea3 (ev_var rfl) (ev_var rfl) (ev_un ev_c ru_neg)) fun H9 e9 => ⟨u, rfl, mt_e5.mo _ _ _ _ e9 su, Or.inr rfl, hk.1, hk.2.1, hk.2.2.1, hk.2.2.2.1, hk.2.2.2.2.1, hk.2.2.2.2.2, hrow⟩⟩)
end
end GF
set_option Elab.async false
set_option linter.all false
set_option maxRecDepth 100000
set_option maxHeartbeats 4000000
set_option exponentiation.threshold 100000
namespace GF
open PySem PySem.Spec PyProof.Rows L2 Evl
section
variable {P : Program} {w : World} {K : PySem.W.Frag} {mg : Str → Option Value} {base : Heap} {f : Addr} {fd : FuncData}
def spShut (K : PySem.W.Frag) (C : Addr) : Sp := mkSp (GPre K C) (fun a _ v => v = .int (shutM a.2.1 a.2.2.1 a.2.2.2.1 a.2.2.2.2))
theorem pairn_mem {cs : List P2} (h : 1 ≤ cs.length) {n : Nat} (hn : n < (pairsM cs).length) : (pairAt cs n).1 ∈ cs ∧ (pairAt cs n).2 ∈ cs := pairs_mem h (List.mem_of_getElem? (pair_get hn))
theorem sc_Grown_shut_below : FnScope ["self", "row", "end", "found", "span", "twice", "side"] ["self", "row"] (defScope s_Grown_shut_below) := ⟨rfl, rfl, rfl, by decide +kernel, rfl, by decide +kernel, by decide +kernel⟩
theorem ok_shut_below (F : FnM K "shut_below" "Grown.shut_below" s_Grown_shut_below f fd) (N : Nm mg) {C fI fJ : Addr} {fdI fdJ : FuncData} (cl : Cls K C) (m_is_corner_stake : UseM P w K mg base C "is_corner_stake" 1 ["self", "spot", "row"] (spStake K) fI fdI)
    (u_span_count : Use P w K mg base "span_count" 2 ["span", "row"] spSpanCnt fJ fdJ) : FnOk P w K mg base CX0 3 f fd ["self", "row"] (spShut K C) :=
  F.ok sc_Grown_shut_below (len_mk fun _ _ _ h => by rw [h.1]; rfl) (fun cdv A outer s H vs Q E hr h => ⟨_, PSs.nox (pss_cons (ps_if (pt_cmpR op_lt (pe_callB call_len_seq (by rfl) N.len (by decide +kernel) (pa_cons (pe_fld (pv 0) rfl) pa_nil)) pe_int (nomark _)) (pss_one (ps_ret (pe_callB call_len_seq (by rfl) N.len (by decide +kernel) (pa_cons (pe_lc (own := [("end", 2)]) (g := gName 2) rfl sc_Grown_shut_below.nd (pi_list (pe_fld (pv 0) rfl)) (blkOk_by (own := [("end", 2)]) (N := ["self", "row", "end", "found", "span", "twice", "side"]) (sc := defScope s_Grown_shut_below) (by decide +kernel)) (fun _ _ _ _ _ => (pg_name (i := 2) sc_Grown_shut_below.nd rfl (Or.inl rfl))) (fun _ _ _ _ _ => (pts_one (pt_val (pe_meth (pv 0) cl m_is_corner_stake.m m_is_corner_stake.ok (hr.mono (by decide)) m_is_corner_stake.b .nil pass0 (pa_cons (pv 2) (pa_cons (pv 1) pa_nil)))))) (fun _ _ _ _ _ => (pv 2))) pa_nil)))) pss_nil) (pss_cons (ps_set (i := 3) sc_Grown_shut_below.nd rfl (Or.inl rfl) (pe_callB (cr_sum rfl) (by rfl) N.sum (by decide +kernel) (pa_cons (pe_lc (own := [("span", 4)]) (g := gName 4) rfl sc_Grown_shut_below.nd (pi_list (pe_fld (pv 0) rfl)) (blkOk_by (own := [("span", 4)]) (N := ["self", "row", "end", "found", "span", "twice", "side"]) (sc := defScope s_Grown_shut_below) (by decide +kernel)) (fun _ _ _ _ _ => (pg_name (i := 4) sc_Grown_shut_below.nd rfl (Or.inl rfl))) (fun _ _ _ _ _ => pts_nil) (fun _ _ _ _ _ => (pe_call u_span_count.ok (hr.mono (by decide)) rfl u_span_count.g u_span_count.kp u_span_count.b .nil pass0 (pa_cons (pv 4) (pa_cons (pv 1) pa_nil))))) pa_nil))) (pss_cons (ps_setLc (i := 5) (own := [("side", 6)]) (g := gName 6) rfl sc_Grown_shut_below.nd rfl rfl (sw_true rfl rfl rfl (by decide +kernel)) (pi_list (pe_fld (pv 0) rfl)) (blkOk_by (own := [("side", 6)]) (N := ["self", "row", "end", "found", "span", "twice", "side"]) (sc := defScope s_Grown_shut_below) (by decide +kernel)) (fun _ _ _ _ _ => (pg_name (i := 6) sc_Grown_shut_below.nd rfl (Or.inl rfl))) (fun _ _ _ _ _ => (pts_one (pt_cmpR (op_inK (K := K) rfl) (pe_op op_modN (pe_op op_sub (pv 6) pe_int) (pe_callB (call_lenK (K := K) rfl) (by rfl) N.len (by decide +kernel) (pa_cons (pe_fldK (K := K) rfl (pv 0) rfl) pa_nil))) (pe_fldK (K := K) rfl (pv 0) rfl) (by rfl)))) (fun _ _ _ _ _ => (pv 6))) (pss_one (ps_ret (pe_op op_sub (pv 3) (pe_callB call_len_seq (by rfl) N.len (by decide +kernel) (pa_cons (pe_lc (own := [("side", 6)]) (g := gName 6) rfl sc_Grown_shut_below.nd (pi_list (pv 5)) (blkOk_by (own := [("side", 6)]) (N := ["self", "row", "end", "found", "span", "twice", "side"]) (sc := defScope s_Grown_shut_below) (by decide +kernel)) (fun _ _ _ _ _ => (pg_name (i := 6) sc_Grown_shut_below.nd rfl (Or.inl rfl))) (fun _ _ _ _ _ => (pts_one (pt_val (pe_meth (pv 0) cl m_is_corner_stake.m m_is_corner_stake.ok (hr.mono (by decide)) m_is_corner_stake.b .nil pass0 (pa_cons (pv 6) (pa_cons (pv 1) pa_nil)))))) (fun _ _ _ _ _ => (pv 6))) pa_nil)))))))), by
    obtain ⟨⟨o, b, cs, ss, row⟩, ⟨rfl, cg, hg, l1, l2, l3, hss, hb, hb2, hall, hrow⟩, k⟩ := h
    have hg : GrAt H o C b cs ss := hg
    have hout := gr_out hg
    have l1 : 1 ≤ cs.length := l1
    have l2 : cs.length ≤ 1000 := l2
    have l3 : ss.length ≤ 1000 := l3
    have hss : ∀ e ∈ ss, e < cs.length := hss
    have hb : 0 < b := hb
    have hb0 : b ≠ 0 := by omega
    have hall : AllBd cs := hall
    obtain ⟨dx, vc, vs, vp, vr, vl, vw, vsp, h1, rc, rs, rp, rr, rl, rw1, rsp⟩ := hg
    have ecl : ∀ r, shutM b cs ss row = r → ∀ H1, Ex H H1 → Q (.int r) H1 := fun r hr H1 e => k _ _ e (congrArg V.int hr.symm)
    have vstake : ∀ {σ : L2.St} {H1 : Hp} {te : TE} (e : Nat), e ∈ ss → Ex H H1 → σ[0]? = some (some (.ref o)) → Ev te σ H1 (.int (e : Int)) → σ[1]? = some (some (rowV row)) → Ev (tMeth C "is_corner_stake" (spStake K) [] E0 (tVar 0) (tCons te (tCons (tVar 1) tNil))) σ H1 (.bl (stakeM b cs e row)) := fun {σ H1 te} e he hx s0 hte s1 =>
      ev_er (er_meth (o, C, b, cs, ss, e, row) (ev_var s0) (hx _ _ h1) rfl (ea2 hte (ev_var s1)) fun H2 e2 => ⟨rfl, cg.toCF, mo_out (hx.trans e2) hout, hss e he, hb0, hb2, hrow⟩)
    have vsh : ∀ {σ : L2.St} {H1 : Hp}, Ex H H1 → σ[0]? = some (some (.ref o)) → ER (tFld K (tVar 0) "shut") σ H1 (fun H' v => LR IsN H' v ss) := fun hx s0 => er_ev (ev_fld (ev_var s0) (hx _ _ h1) cg.cl cg.ns rfl) fun H2 e2 => mo_lr mt_n.mo _ _ _ _ (hx.trans e2) rs
    refine q_when (et_test (ev_op (ev_lenL (ev_fld (ev_var rfl) h1 cg.cl cg.nc rfl) rc) ev_c rv_I0)) (fun hc H1 e1 => ?_) (fun hc H1 e1 => ?_)
    · have hc : (cs.length : Int) < 3 := of_decide_eq_true hc
      refine s_ret (ev_lenR (S := IsN) (xs := ((ss.filter fun e => stakeM b cs e row).map fun e => e)) ?_) fun H2 e2 => ecl _ ?_ _ (e1.trans e2)
      · refine er_lc (S := IsN) (S' := IsN) (xs := ss) (fun e => stakeM b cs e row) (fun e => e) mt_n.mo mt_n (vsh e1 rfl) (by omega) fun e H3 he e3 => tn_nameIf (fun _ => rfl) (fun v H4 e4 s => ?_) (fun v H4 e4 s _ => er_var rfl (mt_n.mo.at _) s)
        cases s
        exact et_B (vstake e he ((e1.trans e3).trans e4) rfl (ev_var rfl) rfl)
      · unfold shutM
        rw [if_pos (by omega), List.map_id']
    have hc : ¬ (cs.length : Int) < 3 := of_decide_eq_false hc
    have h3l : 3 ≤ cs.length := by omega
    have hspm : spansM b cs ss = ss.map (spanAt b cs) := if_pos (by omega)
    rw [hspm] at rsp
    refine q_asg (v := .int (ss.map fun s => spanCnt (spanAt b cs s) row).sum) (ev_sumR ?_) fun H2 e2 => ?_
    · have e3 : (ss.map fun s => spanCnt (spanAt b cs s) row) = (((ss.map (spanAt b cs)).filter fun _ => true).map fun sp => spanCnt sp row) := by
        rw [fil_true, List.map_map]
        rfl
      rw [e3]
      refine er_lc (S := TSp) (S' := IsI) (fun _ => true) (fun sp => spanCnt sp row) mt_sp.mo mt_int (er_ev (ev_fld (ev_var rfl) (e1 _ _ h1) cg.cl cg.nsp rfl) fun H3 e3 => mo_lr mt_sp.mo _ _ _ _ (e1.trans e3) rsp) (by rw [List.length_map]; omega) fun sp H3 hsp e3 => tn_name (fun _ => rfl) fun u H4 e4 su => ?_
      obtain ⟨n, hn, rfl⟩ := List.mem_map.mp hsp
      have hm := pairn_mem l1 (n := n) (by rw [pairs_len h3l]; exact hss n hn)
      exact er_use (spanAt b cs n, row) (ea2 (ev_var rfl) (ev_var rfl)) fun H5 e5 => ⟨u, rfl, mt_sp.mo _ _ _ _ e5 su, fun s hs => span_rise (hall _ hm.1) (hall _ hm.2) hs⟩
    have e12 := e1.trans e2
    have hne : (cs.length : Int) ≠ 0 := by omega
    refine q_asgR (R := fun H' v => LR IsN H' v (twiceM cs.length ss)) ?_ fun vt H3 e3 rt => ?_
    · have e4 : twiceM cs.length ss = ((ss.filter fun s => decide (prevM cs.length s ∈ ss)).map fun e => e) := by rw [List.map_id']; rfl
      rw [e4]
      refine er_lc (S := IsN) (S' := IsN) (xs := ss) (fun s => decide (prevM cs.length s ∈ ss)) (fun e => e) mt_n.mo mt_n (vsh e12 rfl) (by omega) fun e H3 he e3 => tn_nameIf (fun _ => rfl) (fun v H4 e4 s => ?_) (fun v H4 e4 s _ => er_var rfl (mt_n.mo.at _) s)
      cases s
      have hx := (e12.trans e3).trans e4
      refine et_test (ev_inN (v := vs) ?_ (ev_fld (ev_var rfl) (hx _ _ h1) cg.cl cg.ns rfl) (mo_lr mt_n.mo _ _ _ _ hx rs))
      rw [← fmod_prev (by omega)]
      exact ev_op (ev_op (ev_var rfl) ev_c rv_I0) (ev_lenL (ev_fld (ev_var rfl) (hx _ _ h1) cg.cl cg.nc rfl) (mo_lr mo_t2 _ _ _ _ hx rc)) (rv_I hne)
    have e13 := e12.trans e3
    have htl : (twiceM cs.length ss).length ≤ ss.length := List.length_filter_le _ _
    refine s_ret (ev_op (ev_var rfl) (ev_lenR (S := IsN) (xs := (((twiceM cs.length ss).filter fun e => stakeM b cs e row).map fun e => e)) ?_) rv_I0) fun H4 e4 => ecl _ ?_ _ (e13.trans e4)
    · refine er_lc (S := IsN) (S' := IsN) (xs := twiceM cs.length ss) (fun e => stakeM b cs e row) (fun e => e) mt_n.mo mt_n (er_var rfl ((mo_lr mt_n.mo).at _) rt) (by omega) fun e H5 he e5 => tn_nameIf (fun _ => rfl) (fun v H6 e6 s => ?_) (fun v H6 e6 s _ => er_var rfl (mt_n.mo.at _) s)
      cases s
      exact et_B (vstake e (List.mem_filter.mp he).1 ((e13.trans e5).trans e6) rfl (ev_var rfl) rfl)
    · unfold shutM
      rw [if_neg (by omega), List.map_id']⟩)
def spBelow (K : PySem.W.Frag) (C : Addr) : Sp := mkSp (GPre K C) (fun a _ v => v = .int (belowM a.2.1 a.2.2.1 a.2.2.2.1 a.2.2.2.2))
theorem sc_Grown_below : FnScope ["self", "row"] ["self", "row"] (defScope s_Grown_below) := ⟨rfl, rfl, rfl, by decide +kernel, rfl, by decide +kernel, by decide +kernel⟩
theorem ok_below (F : FnM K "below" "Grown.below" s_Grown_below f fd) {C fI fJ : Addr} {fdI fdJ : FuncData} (cl : Cls K C) (m_closed_below : UseM P w K mg base C "closed_below" 3 ["self", "row"] (spClosed K C) fI fdI) (m_shut_below : UseM P w K mg base C "shut_below" 3 ["self", "row"] (spShut K C) fJ fdJ) : FnOk P w K mg base CX0 4 f fd ["self", "row"] (spBelow K C) :=
  F.ok sc_Grown_below (len_mk fun _ _ _ h => by rw [h.1]; rfl) (fun cdv A outer s H vs Q E hr h => ⟨_, PSs.nox (pss_one (ps_ret (pe_op op_sub (pe_meth (pv 0) cl m_closed_below.m m_closed_below.ok (hr.mono (by decide)) m_closed_below.b .nil pass0 (pa_cons (pv 1) pa_nil)) (pe_meth (pv 0) cl m_shut_below.m m_shut_below.ok (hr.mono (by decide)) m_shut_below.b .nil pass0 (pa_cons (pv 1) pa_nil))))), by
    obtain ⟨⟨o, b, cs, ss, row⟩, ⟨rfl, cg, hg, hp⟩, k⟩ := h
    have hg : GrAt H o C b cs ss := hg
    have hg0 := hg
    obtain ⟨dx, vc, vs, vp, vr, vl, vw, vsp, h1, _⟩ := hg
    exact s_ret (ev_op (ev_er (er_meth (o, b, cs, ss, row) (ev_var rfl) h1 rfl (ea1 (ev_var rfl)) fun H1 e => ⟨rfl, cg, mo_gr e hg0, hp⟩)) (ev_er (er_meth (o, b, cs, ss, row) (ev_var rfl) h1 rfl (ea1 (ev_var rfl)) fun H1 e => ⟨rfl, cg, mo_gr e hg0, hp⟩)) rv_I0) fun H1 e => k _ _ e rfl⟩)
end
end GF
set_option Elab.async false
set_option linter.all false
set_option maxRecDepth 100000
set_option maxHeartbeats 4000000
set_option exponentiation.threshold 100000
namespace GF
open PySem PySem.Spec PyProof.Rows L2 Evl
/-! ### what a valid fence gives -/
def SzOk (size : Int) : Prop := 1 ≤ size ∧ size ≤ 10 ^ 30
theorem bd_small {a : Int} {n : Nat} (h : a.natAbs ≤ 10 ^ 30) (hn : 100 ≤ n) : Bd n a := Bd.mono (n := 100) (Nat.lt_of_le_of_lt h (by decide +kernel)) hn
theorem nat30 {a : Int} (h0 : 0 ≤ a) (h : a ≤ 10 ^ 30) : a.natAbs ≤ 10 ^ 30 := by
  have e30 : (10 : Int) ^ 30 = ((10 ^ 30 : Nat) : Int) := by decide +kernel
  rw [e30] at h
  omega
theorem size_bd {size : Int} (h : SzOk size) {n : Nat} (hn : 100 ≤ n) : Bd n size := bd_small (nat30 (by have := h.1; omega) h.2) hn
theorem valid_fen {q : Fen} (h : Valid q) : FenOk q := by
  obtain ⟨v1, v2, v3, v4, v5⟩ := h
  refine ⟨by omega, bd_small (by omega) (by decide), v3.1, by have := v3.2.1; omega, fun p hp => ?_⟩
  have := v3.2.2.1 p hp
  exact ⟨bd_small this.1 (by decide), bd_small this.2 (by decide)⟩
theorem valid_all {q : Fen} (h : Valid q) {size : Int} (hs : SzOk size) : AllBd (scaleM size q.2.1) := fun p hp => by
  obtain ⟨r, hr, rfl⟩ := List.mem_map.mp hp
  have := h.2.2.1.2.2.1 r hr
  exact ⟨((bd_small this.1 (Nat.le_refl _)).mul (size_bd hs (Nat.le_refl _))).mono (by decide), ((bd_small this.2 (Nat.le_refl _)).mul (size_bd hs (Nat.le_refl _))).mono (by decide)⟩
theorem scale_len (size : Int) (ps : List P2) : (scaleM size ps).length = ps.length := by rw [scaleM, List.length_map]
theorem scale_at {size : Int} {ps : List P2} {i : Nat} (h : i < ps.length) : at_ (scaleM size ps) i = ((at_ ps i).1 * size, (at_ ps i).2 * size) := by
  have h1 : (scaleM size ps)[i]? = some ((at_ ps i).1 * size, (at_ ps i).2 * size) := by
    rw [scaleM, List.getElem?_map, at_get h]
    rfl
  rw [at_get (by rw [scale_len]; exact h)] at h1
  exact Option.some.inj h1
theorem mul4 (a b c d : Int) : a * b * (c * d) = a * c * (b * d) := by
  rw [Int.mul_assoc, Int.mul_left_comm b c d, ← Int.mul_assoc]
theorem turn_scale (p q r : P2) (size : Int) : turnM (p.1 * size, p.2 * size) (q.1 * size, q.2 * size) (r.1 * size, r.2 * size) = turnM p q r * (size * size) := by
  unfold turnM
  show (q.1 * size - p.1 * size) * (r.2 * size - p.2 * size) - (q.2 * size - p.2 * size) * (r.1 * size - p.1 * size) = _
  rw [← Int.sub_mul q.1 p.1 size, ← Int.sub_mul r.2 p.2 size, ← Int.sub_mul q.2 p.2 size, ← Int.sub_mul r.1 p.1 size, mul4, mul4 (q.2 - p.2), ← Int.sub_mul]
theorem side_ok {ps : List P2} (hc : Corners ps) {size : Int} (hs : SzOk size) (hall : AllBd (scaleM size ps)) {n : Nat} (hn : n < (pairsM (scaleM size ps)).length) (hnl : n < ps.length) (h2 : 2 ≤ ps.length) : SideOk (scaleM size ps) n := by
  have hl := scale_len size ps
  have hm := pairs_mem (cs := scaleM size ps) (by omega) (List.mem_of_getElem? (pair_get hn))
  have hs1 : size ≠ 0 := by have := hs.1; omega
  refine ⟨hn, fun e => ?_, hall _ hm.1, hall _ hm.2⟩
  by_cases h3 : 3 ≤ ps.length
  · rw [pairAt_eq (by omega) (by omega)] at e
    have e : at_ (scaleM size ps) n = at_ (scaleM size ps) ((n + 1) % (scaleM size ps).length) := e
    rw [hl, scale_at hnl, scale_at (Nat.mod_lt _ (by omega))] at e
    have e1 := Int.eq_of_mul_eq_mul_right hs1 (congrArg Prod.fst e)
    have e2 := Int.eq_of_mul_eq_mul_right hs1 (congrArg Prod.snd e)
    have ht := (hc.2.2.2.2 h3).2.1 n hnl
    unfold turnM at ht
    have e1 : (at_ ps n).1 = (at_ ps ((n + 1) % ps.length)).1 := e1
    have e2 : (at_ ps n).2 = (at_ ps ((n + 1) % ps.length)).2 := e2
    rw [← e1, ← e2] at ht
    simp at ht
  · have h22 : ps.length = 2 := by omega
    have hlt := hc.2.2.2.1 h22
    have hn0 : n = 0 := by
      unfold pairsM at hn
      rw [if_pos (by omega)] at hn
      simpa using hn
    subst hn0
    have e3 : pairAt (scaleM size ps) 0 = (at_ (scaleM size ps) 0, at_ (scaleM size ps) 1) := by
      unfold pairAt pairsM
      rw [if_pos (by omega), hl, h22]
      rfl
    rw [e3] at e
    have e : at_ (scaleM size ps) 0 = at_ (scaleM size ps) 1 := e
    rw [scale_at hnl, scale_at (by omega)] at e
    have e1 := Int.eq_of_mul_eq_mul_right hs1 (congrArg Prod.fst e)
    have e2 := Int.eq_of_mul_eq_mul_right hs1 (congrArg Prod.snd e)
    unfold ptlt at hlt
    have e1 : (at_ ps 0).1 = (at_ ps 1).1 := e1
    have e2 : (at_ ps 0).2 = (at_ ps 1).2 := e2
    omega
theorem valid_ss {q : Fen} (h : Valid q) : ∀ e ∈ q.2.2, e < q.2.1.length := fun e he => Nat.lt_of_lt_of_le (h.2.2.2.2 e he) (sidesN_le _)
section
variable {P : Program} {w : World} {K : PySem.W.Frag} {mg : Str → Option Value} {base : Heap} {f : Addr} {fd : FuncData}
/-! ### making objects -/
structure UseI (P : Program) (w : World) (K : PySem.W.Frag) (mg : Str → Option Value) (base : Heap) (k : Nat) (sp : Sp) (f : Addr) (fd : FuncData) : Prop where
  ok : FnOk P w K mg base CX0 k f fd ["self", "fence", "size"] sp
  b : Binds K fd ["self", "fence", "size"] []
def spGI (K : PySem.W.Frag) (C : Addr) : Sp := fun vs H Q E => spGInit K vs H Q E ∧ ∀ o dx C', vs.head? = some (.ref o) → H o = some (.ins C' dx []) → C' = C
theorem er_makeG {σ : L2.St} {H : Hp} {ta : TA} {C : Addr} {E : XK} {vf : V} {size : Int} {q : Fen} (h : EvA ta σ H [vf, .int size]) (hf : FenV H vf q) (hv : Valid q) (hs : SzOk size) (cg : CG K C) : ER (tMake C (spGI K C) [] E ta) σ H (fun H' v => ∃ x, v = .ref x ∧ GrAt H' x C q.1 (scaleM size q.2.1) q.2.2) := fun H1 e Q k =>
  h H1 e _ fun H2 e2 x dx hx hdx hne => by
    have ex : Ex H2 (upd (upd H2 dx (.own x)) x (.ins C dx [])) := (Ex.new hdx).trans (Ex.new (by rw [upd_ne hne.symm]; exact hx))
    refine ⟨⟨x, dx, C, H2, vf, q, size, rfl, cg, upd_same, hx, ex, mo_fen _ _ _ _ ((e.trans e2).trans ex) hf, valid_fen hv, size_bd hs (by decide), valid_all hv hs, fun n h1 h2 h3 => side_ok hv.2.2.1 hs (valid_all hv hs) h1 h2 h3, valid_len hv, valid_ss hv, fun H' b g => ⟨rfl, k _ H' (e2.trans b) ⟨x, rfl, g⟩⟩⟩, fun o dx' C' h1 h2 => ?_⟩
    have h1 : some (V.ref x) = some (V.ref o) := h1
    cases h1
    rw [upd_same] at h2
    cases h2
    rfl
theorem er_makeO {σ : L2.St} {H : Hp} {ta : TA} {C : Addr} {E : XK} {vf : V} {size : Int} {q : Fen} (h : EvA ta σ H [vf, .int size]) (hf : FenV H vf q) (hv : Valid q) (hs : SzOk size) (cf : CF K C) : ER (tMake C (spInit K) [] E ta) σ H (fun H' v => ∃ x, v = .ref x ∧ OutAt H' x C q.1 (scaleM size q.2.1) q.2.2) := fun H1 e Q k =>
  h H1 e _ fun H2 e2 x dx hx hdx hne => by
    have ex : Ex H2 (upd (upd H2 dx (.own x)) x (.ins C dx [])) := (Ex.new hdx).trans (Ex.new (by rw [upd_ne hne.symm]; exact hx))
    refine ⟨x, dx, C, H2, vf, q, size, rfl, cf, upd_same, hx, ex, mo_fen _ _ _ _ ((e.trans e2).trans ex) hf, valid_fen hv, size_bd hs (by decide), fun H' vc vs vp b g r1 r2 r3 => ⟨rfl, k _ H' (e2.trans b) ⟨x, rfl, dx, _, vc, vs, vp, g, rfl, rfl, rfl, rfl, r1, r2, r3, fun m hm => ?_⟩⟩⟩
    simp only [mths, List.mem_cons, List.not_mem_nil, or_false] at hm
    rcases hm with rfl | rfl | rfl | rfl | rfl | rfl | rfl <;> rfl
theorem er_methR {α : Type} {Pre : α → Hp → List V → Prop} {Rr : α → Hp → V → Prop} {E : XK} {to : TE} {ta : TA} {σ : L2.St} {H : Hp} {C : Addr} {m : Str} {vs : List V} {G : Hp → Addr → Prop} {R : Hp → V → Prop} (b : Addr → α) (ho : ER to σ H (fun H' v => ∃ x, v = .ref x ∧ G H' x)) (hG : ∀ H' x, G H' x → ∃ dx fs, H' x = some (.ins C dx fs) ∧ fs.lookup m = none) (mG : ∀ H H' x, Ex H H' → G H x → G H' x)
    (h : EvA ta σ H vs) (hp : ∀ H1 x, Ex H H1 → G H1 x → Pre (b x) H1 (.ref x :: vs)) (hr : ∀ H1 x v, Rr (b x) H1 v → R H1 v) : ER (tMeth C m (mkSp Pre Rr) [] E to ta) σ H R := fun H1 e Q q =>
  ho H1 e _ fun v H2 e2 ⟨x, ev, g⟩ => by
    subst ev
    obtain ⟨dx, fs, h1, h2⟩ := hG H2 x g
    exact ⟨x, dx, fs, rfl, h1, h2, h H2 (e.trans e2) _ fun H3 e3 => ⟨b x, by rw [List.append_nil]; exact hp H3 x ((e.trans e2).trans e3) (mG _ _ _ e3 g), fun v H4 e4 r => q v H4 ((e2.trans e3).trans e4) (hr _ _ _ r)⟩⟩
theorem gr_at {C : Addr} {b : Int} {cs : List P2} {ss : List Nat} {m : Str} (hm : m ∈ mths) : ∀ H' x, GrAt H' x C b cs ss → ∃ dx fs, H' x = some (.ins C dx fs) ∧ fs.lookup m = none := fun H' x g => by
  obtain ⟨dx, fs, vc, vs, vp, h1, h2, h3, h4, h5, h6, h7, h8, h9⟩ := gr_out g
  exact ⟨dx, fs, h1, h9 m hm⟩
theorem out_at {C : Addr} {b : Int} {cs : List P2} {ss : List Nat} {m : Str} (hm : m ∈ mths) : ∀ H' x, OutAt H' x C b cs ss → ∃ dx fs, H' x = some (.ins C dx fs) ∧ fs.lookup m = none := fun H' x g => by
  obtain ⟨dx, fs, vc, vs, vp, h1, h2, h3, h4, h5, h6, h7, h8, h9⟩ := g
  exact ⟨dx, fs, h1, h9 m hm⟩
noncomputable def countM (q : Fen) (size : Int) (row : Option Int) : Int := belowM q.1 (scaleM size q.2.1) q.2.2 row
theorem g_pre {C : Addr} {q : Fen} {size : Int} {row : Option Int} (cg : CG K C) (hv : Valid q) (hs : SzOk size) (hrow : ∀ r, row = some r → Bd 700 r) {H : Hp} {x : Addr} (g : GrAt H x C q.1 (scaleM size q.2.1) q.2.2) : GPre K C (x, q.1, scaleM size q.2.1, q.2.2, row) H [.ref x, rowV row] := by
  have hf := valid_fen hv
  exact ⟨rfl, cg, g, by show 1 ≤ (scaleM size q.2.1).length; rw [scale_len]; exact hf.2.2.1, by show (scaleM size q.2.1).length ≤ 1000; rw [scale_len]; exact hf.2.2.2.1, valid_len hv, by show ∀ e ∈ q.2.2, e < (scaleM size q.2.1).length; rw [scale_len]; exact valid_ss hv, hf.1, hf.2.1, valid_all hv hs, hrow⟩
abbrev CPre (a : Fen × Int) (H : Hp) (vs : List V) : Prop := ∃ v, vs = [v, .int a.2] ∧ FenV H v a.1 ∧ Valid a.1 ∧ SzOk a.2
def spCount : Sp := mkSp (α := Fen × Int) CPre (fun a _ v => v = .int (countM a.1 a.2 none))
theorem sc_count_of : FnScope ["fence", "size"] ["fence", "size"] (defScope s_count_of) := ⟨rfl, rfl, rfl, by decide +kernel, rfl, by decide +kernel, by decide +kernel⟩
theorem ok_count_of (F : FnP K "count_of" s_count_of f fd) {C_Grown fi fb : Addr} {fdi fdb : FuncData} (cg : CG K C_Grown) (c_Grown : Cls K C_Grown) (mk_Grown : Mk K C_Grown fi) (g_Grown : mg "Grown" = some (.ref C_Grown)) (i_Grown : UseI P w K mg base 6 (spGI K C_Grown) fi fdi) (m_below : UseM P w K mg base C_Grown "below" 4 ["self", "row"] (spBelow K C_Grown) fb fdb) : FnOk P w K mg base CX0 8 f fd ["fence", "size"] spCount :=
  F.ok sc_count_of (len_mk fun _ _ _ ⟨_, h, _⟩ => by rw [h]; rfl) (fun cdv A outer s H vs Q E hr h => ⟨_, PSs.nox (pss_one (ps_ret (pe_meth (pe_make mk_Grown i_Grown.ok (hr.mono (by decide)) rfl g_Grown i_Grown.b .nil pass0 (pa_cons (pv 0) (pa_cons (pv 1) pa_nil))) c_Grown m_below.m m_below.ok (hr.mono (by decide)) m_below.b .nil pass0 (pa_cons pe_non pa_nil)))), by
    obtain ⟨⟨q, size⟩, ⟨v, rfl, hf, hv, hs⟩, k⟩ := h
    exact s_retR (er_methR (R := fun _ v => v = .int (countM q size none)) (fun x => (x, q.1, scaleM size q.2.1, q.2.2, none)) (er_makeG (ea2 (ev_var rfl) (ev_var rfl)) hf hv hs cg) (gr_at (by simp [mths])) (fun _ _ _ e g => mo_gr e g) (ea1 ev_c) (fun H1 x e g => g_pre (row := none) cg hv hs (fun r z => by cases z) g) (fun H1 x v r => r)) fun u H1 e r => k _ _ e r⟩)
theorem sc_stake_count : FnScope ["fence", "size"] ["fence", "size"] (defScope s_stake_count) := ⟨rfl, rfl, rfl, by decide +kernel, rfl, by decide +kernel, by decide +kernel⟩
theorem ok_stake_count (F : FnP K "stake_count" s_stake_count f fd) {fI fJ fL : Addr} {fdI fdJ fdL : FuncData} (u_require_fence : Use P w K mg base "require_fence" 6 ["fence"] spReqFence fI fdI) (u_require_size : Use P w K mg base "require_size" 3 ["size"] spReqSize fJ fdJ) (u_count_of : Use P w K mg base "count_of" 8 ["fence", "size"] spCount fL fdL) : FnOk P w K mg base CX0 9 f fd ["fence", "size"] spCount :=
  F.ok sc_stake_count (len_mk fun _ _ _ ⟨_, h, _⟩ => by rw [h]; rfl) (fun cdv A outer s H vs Q E hr h => ⟨_, PSs.nox (pss_cons (ps_expr (pe_call u_require_fence.ok (hr.mono (by decide)) rfl u_require_fence.g u_require_fence.kp u_require_fence.b .nil pass0 (pa_cons (pv 0) pa_nil))) (pss_cons (ps_expr (pe_call u_require_size.ok (hr.mono (by decide)) rfl u_require_size.g u_require_size.kp u_require_size.b .nil pass0 (pa_cons (pv 1) pa_nil))) (pss_one (ps_ret (pe_call u_count_of.ok (hr.mono (by decide)) rfl u_count_of.g u_count_of.kp u_count_of.b .nil pass0 (pa_cons (pv 0) (pa_cons (pv 1) pa_nil))))))), by
    obtain ⟨⟨q, size⟩, ⟨v, rfl, hf, hv, hs⟩, k⟩ := h
    refine q_drop (ev_er (er_use q (ea1 (ev_var rfl)) fun H1 e => ⟨v, rfl, mo_fen _ _ _ _ e hf, hv⟩)) fun H1 e1 => ?_
    refine q_drop (ev_er (er_use size (ea1 (ev_var rfl)) fun H1 e => ⟨rfl, hs.1, hs.2⟩)) fun H2 e2 => ?_
    exact s_retR (er_use (q, size) (ea2 (ev_var rfl) (ev_var rfl)) fun H3 e3 => ⟨v, rfl, mo_fen _ _ _ _ ((e1.trans e2).trans e3) hf, hv, hs⟩) fun u H3 e3 r => k _ _ ((e1.trans e2).trans e3) r⟩)
def spBelowC : Sp := mkSp (α := Fen × Int × Int) (fun a H vs => ∃ v, vs = [v, .int a.2.1, .int a.2.2] ∧ FenV H v a.1 ∧ Valid a.1 ∧ SzOk a.2.1 ∧ Bd 700 a.2.2) (fun a _ v => v = .int (countM a.1 a.2.1 (some a.2.2)))
theorem sc_below_count : FnScope ["fence", "size", "row"] ["fence", "size", "row"] (defScope s_below_count) := ⟨rfl, rfl, rfl, by decide +kernel, rfl, by decide +kernel, by decide +kernel⟩
theorem ok_below_count (F : FnP K "below_count" s_below_count f fd) {fI fJ fL : Addr} {fdI fdJ fdL : FuncData} (u_require_fence : Use P w K mg base "require_fence" 6 ["fence"] spReqFence fI fdI) (u_require_size : Use P w K mg base "require_size" 3 ["size"] spReqSize fJ fdJ) (u_require_integer : Use P w K mg base "require_integer" 2 ["number"] spReqInt fL fdL)
    {C_Grown fi fb : Addr} {fdi fdb : FuncData} (cg : CG K C_Grown) (c_Grown : Cls K C_Grown) (mk_Grown : Mk K C_Grown fi) (g_Grown : mg "Grown" = some (.ref C_Grown)) (i_Grown : UseI P w K mg base 6 (spGI K C_Grown) fi fdi) (m_below : UseM P w K mg base C_Grown "below" 4 ["self", "row"] (spBelow K C_Grown) fb fdb) : FnOk P w K mg base CX0 8 f fd ["fence", "size", "row"] spBelowC :=
  F.ok sc_below_count (len_mk fun _ _ _ ⟨_, h, _⟩ => by rw [h]; rfl) (fun cdv A outer s H vs Q E hr h => ⟨_, PSs.nox (pss_cons (ps_expr (pe_call u_require_fence.ok (hr.mono (by decide)) rfl u_require_fence.g u_require_fence.kp u_require_fence.b .nil pass0 (pa_cons (pv 0) pa_nil))) (pss_cons (ps_expr (pe_call u_require_size.ok (hr.mono (by decide)) rfl u_require_size.g u_require_size.kp u_require_size.b .nil pass0 (pa_cons (pv 1) pa_nil))) (pss_cons (ps_expr (pe_call u_require_integer.ok (hr.mono (by decide)) rfl u_require_integer.g u_require_integer.kp u_require_integer.b .nil pass0 (pa_cons (pv 2) pa_nil))) (pss_one (ps_ret (pe_meth (pe_make mk_Grown i_Grown.ok (hr.mono (by decide)) rfl g_Grown i_Grown.b .nil pass0 (pa_cons (pv 0) (pa_cons (pv 1) pa_nil))) c_Grown m_below.m m_below.ok (hr.mono (by decide)) m_below.b .nil pass0 (pa_cons (pv 2) pa_nil))))))), by
    obtain ⟨⟨q, size, row⟩, ⟨v, rfl, hf, hv, hs, hrow⟩, k⟩ := h
    refine q_drop (ev_er (er_use q (ea1 (ev_var rfl)) fun H1 e => ⟨v, rfl, mo_fen _ _ _ _ e hf, hv⟩)) fun H1 e1 => ?_
    refine q_drop (ev_er (er_use size (ea1 (ev_var rfl)) fun H1 e => ⟨rfl, hs.1, hs.2⟩)) fun H2 e2 => ?_
    refine q_drop (ev_er (er_use row (ea1 (ev_var rfl)) fun H1 e => rfl)) fun H3 e3 => ?_
    have e13 := (e1.trans e2).trans e3
    exact s_retR (er_methR (R := fun _ v => v = .int (countM q size (some row))) (fun x => (x, q.1, scaleM size q.2.1, q.2.2, some row)) (er_makeG (ea2 (ev_var rfl) (ev_var rfl)) (mo_fen _ _ _ _ e13 hf) hv hs cg) (gr_at (by simp [mths])) (fun _ _ _ e g => mo_gr e g) (ea1 (ev_var rfl)) (fun H1 x e g => g_pre (row := some row) cg hv hs (fun r z => by cases z; exact hrow) g) (fun H1 x v r => r)) fun u H4 e4 r => k _ _ (e13.trans e4) r⟩)
def spSideCount : Sp := mkSp (α := Fen × Nat × Int) (fun a H vs => ∃ v, vs = [v, .int (a.2.1 : Int), .int a.2.2] ∧ FenV H v a.1 ∧ Valid a.1 ∧ SzOk a.2.2 ∧ a.2.1 < sidesN a.1.2.1.length) (fun a _ v => v = .int (sideM a.1.1 (scaleM a.2.2 a.1.2.1) a.2.1))
theorem sc_side_count : FnScope ["fence", "side", "size"] ["fence", "side", "size"] (defScope s_side_count) := ⟨rfl, rfl, rfl, by decide +kernel, rfl, by decide +kernel, by decide +kernel⟩
theorem ok_side_count (F : FnP K "side_count" s_side_count f fd) {fI fJ fL : Addr} {fdI fdJ fdL : FuncData} (u_require_fence : Use P w K mg base "require_fence" 6 ["fence"] spReqFence fI fdI) (u_require_size : Use P w K mg base "require_size" 3 ["size"] spReqSize fJ fdJ) (u_require_side : Use P w K mg base "require_side" 3 ["fence", "side"] spReqSide fL fdL)
    {C_Outline fi fb : Addr} {fdi fdb : FuncData} (cf : CF K C_Outline) (c_Outline : Cls K C_Outline) (mk_Outline : Mk K C_Outline fi) (g_Outline : mg "Outline" = some (.ref C_Outline)) (i_Outline : UseI P w K mg base 2 (spInit K) fi fdi) (m_side_stakes : UseM P w K mg base C_Outline "side_stakes" 4 ["self", "side"] (spSideStakes K C_Outline) fb fdb) : FnOk P w K mg base CX0 8 f fd ["fence", "side", "size"] spSideCount :=
  F.ok sc_side_count (len_mk fun _ _ _ ⟨_, h, _⟩ => by rw [h]; rfl) (fun cdv A outer s H vs Q E hr h => ⟨_, PSs.nox (pss_cons (ps_expr (pe_call u_require_fence.ok (hr.mono (by decide)) rfl u_require_fence.g u_require_fence.kp u_require_fence.b .nil pass0 (pa_cons (pv 0) pa_nil))) (pss_cons (ps_expr (pe_call u_require_side.ok (hr.mono (by decide)) rfl u_require_side.g u_require_side.kp u_require_side.b .nil pass0 (pa_cons (pv 0) (pa_cons (pv 1) pa_nil)))) (pss_cons (ps_expr (pe_call u_require_size.ok (hr.mono (by decide)) rfl u_require_size.g u_require_size.kp u_require_size.b .nil pass0 (pa_cons (pv 2) pa_nil))) (pss_one (ps_ret (pe_meth (pe_make mk_Outline i_Outline.ok (hr.mono (by decide)) rfl g_Outline i_Outline.b .nil pass0 (pa_cons (pv 0) (pa_cons (pv 2) pa_nil))) c_Outline m_side_stakes.m m_side_stakes.ok (hr.mono (by decide)) m_side_stakes.b .nil pass0 (pa_cons (pv 1) pa_nil))))))), by
    obtain ⟨⟨q, n, size⟩, ⟨v, rfl, hf, hv, hs, hn⟩, k⟩ := h
    have hn : n < sidesN q.2.1.length := hn
    refine q_drop (ev_er (er_use q (ea1 (ev_var rfl)) fun H1 e => ⟨v, rfl, mo_fen _ _ _ _ e hf, hv⟩)) fun H1 e1 => ?_
    refine q_drop (ev_er (er_use (q, n) (ea2 (ev_var rfl) (ev_var rfl)) fun H2 e2 => ⟨v, rfl, mo_fen _ _ _ _ (e1.trans e2) hf, hn⟩)) fun H2 e2 => ?_
    refine q_drop (ev_er (er_use size (ea1 (ev_var rfl)) fun H1 e => ⟨rfl, hs.1, hs.2⟩)) fun H3 e3 => ?_
    have e13 := (e1.trans e2).trans e3
    have hl := scale_len size q.2.1
    have hnl : n < q.2.1.length := Nat.lt_of_lt_of_le hn (sidesN_le _)
    have hf0 := valid_fen hv
    have hso : SidesOk (scaleM size q.2.1) := fun h3 m hm => side_ok hv.2.2.1 hs (valid_all hv hs) (by rw [pairs_len h3]; exact hm) (by rw [← hl]; exact hm) (by rw [← hl]; exact Nat.le_trans (by decide) h3)
    exact s_retR (er_methR (R := fun _ v => v = .int (sideM q.1 (scaleM size q.2.1) n)) (fun x => (x, q.1, scaleM size q.2.1, q.2.2, n)) (er_makeO (ea2 (ev_var rfl) (ev_var rfl)) (mo_fen _ _ _ _ e13 hf) hv hs cf) (out_at (by simp [mths])) (fun _ _ _ e g => mo_out e g) (ea1 (ev_var rfl)) (fun H1 x e g => ⟨rfl, cf, g, by show n < (scaleM size q.2.1).length; rw [hl]; exact hnl, hso, hf0.1, hf0.2.1⟩) (fun H1 x v r => r)) fun u H4 e4 r => k _ _ (e13.trans e4) r⟩)
def spHoldsC : Sp := mkSp (α := Fen × Int × Pt) (fun a H vs => ∃ v u, vs = [v, .int a.2.1, u] ∧ FenV H v a.1 ∧ Valid a.1 ∧ SzOk a.2.1 ∧ T2 H u a.2.2 ∧ BdP 700 a.2.2) (fun a _ v => v = .bl (holdsM a.1.1 (scaleM a.2.1 a.1.2.1) a.1.2.2 a.2.2))
theorem sc_holds_stake : FnScope ["fence", "size", "point"] ["fence", "size", "point"] (defScope s_holds_stake) := ⟨rfl, rfl, rfl, by decide +kernel, rfl, by decide +kernel, by decide +kernel⟩
theorem ok_holds_stake (F : FnP K "holds_stake" s_holds_stake f fd) {fI fJ fL : Addr} {fdI fdJ fdL : FuncData} (u_require_fence : Use P w K mg base "require_fence" 6 ["fence"] spReqFence fI fdI) (u_require_size : Use P w K mg base "require_size" 3 ["size"] spReqSize fJ fdJ) (u_require_point : Use P w K mg base "require_point" 3 ["point"] spReqPoint fL fdL)
    {C_Outline fi fb : Addr} {fdi fdb : FuncData} (cf : CF K C_Outline) (c_Outline : Cls K C_Outline) (mk_Outline : Mk K C_Outline fi) (g_Outline : mg "Outline" = some (.ref C_Outline)) (i_Outline : UseI P w K mg base 2 (spInit K) fi fdi) (m_holds : UseM P w K mg base C_Outline "holds" 2 ["self", "point"] (spHolds K C_Outline) fb fdb) : FnOk P w K mg base CX0 8 f fd ["fence", "size", "point"] spHoldsC :=
  F.ok sc_holds_stake (len_mk fun _ _ _ ⟨_, _, h, _⟩ => by rw [h]; rfl) (fun cdv A outer s H vs Q E hr h => ⟨_, PSs.nox (pss_cons (ps_expr (pe_call u_require_fence.ok (hr.mono (by decide)) rfl u_require_fence.g u_require_fence.kp u_require_fence.b .nil pass0 (pa_cons (pv 0) pa_nil))) (pss_cons (ps_expr (pe_call u_require_size.ok (hr.mono (by decide)) rfl u_require_size.g u_require_size.kp u_require_size.b .nil pass0 (pa_cons (pv 1) pa_nil))) (pss_cons (ps_expr (pe_call u_require_point.ok (hr.mono (by decide)) rfl u_require_point.g u_require_point.kp u_require_point.b .nil pass0 (pa_cons (pv 2) pa_nil))) (pss_one (ps_ret (pe_meth (pe_make mk_Outline i_Outline.ok (hr.mono (by decide)) rfl g_Outline i_Outline.b .nil pass0 (pa_cons (pv 0) (pa_cons (pv 1) pa_nil))) c_Outline m_holds.m m_holds.ok (hr.mono (by decide)) m_holds.b .nil pass0 (pa_cons (pv 2) pa_nil))))))), by
    obtain ⟨⟨q, size, pt⟩, ⟨v, u, rfl, hf, hv, hs, tu, bu⟩, k⟩ := h
    have tu : T2 H u pt := tu
    refine q_drop (ev_er (er_use q (ea1 (ev_var rfl)) fun H1 e => ⟨v, rfl, mo_fen _ _ _ _ e hf, hv⟩)) fun H1 e1 => ?_
    refine q_drop (ev_er (er_use size (ea1 (ev_var rfl)) fun H1 e => ⟨rfl, hs.1, hs.2⟩)) fun H2 e2 => ?_
    refine q_drop (ev_er (er_use pt (ea1 (ev_var rfl)) fun H3 e3 => ⟨u, rfl, mo_t2 _ _ _ _ ((e1.trans e2).trans e3) tu⟩)) fun H3 e3 => ?_
    have e13 := (e1.trans e2).trans e3
    have hl := scale_len size q.2.1
    have hf0 := valid_fen hv
    exact s_retR (er_methR (R := fun _ v => v = .bl (holdsM q.1 (scaleM size q.2.1) q.2.2 pt)) (fun x => (x, q.1, scaleM size q.2.1, q.2.2, pt)) (er_makeO (ea2 (ev_var rfl) (ev_var rfl)) (mo_fen _ _ _ _ e13 hf) hv hs cf) (out_at (by simp [mths])) (fun _ _ _ e g => mo_out e g) (ea1 (ev_var rfl)) (fun H1 x e g => ⟨u, rfl, mo_t2 _ _ _ _ (e13.trans e) tu, bu, cf, g, by show 1 ≤ (scaleM size q.2.1).length; rw [hl]; exact hf0.2.2.1, by show (scaleM size q.2.1).length ≤ 1000; rw [hl]; exact hf0.2.2.2.1, valid_len hv, by show ∀ e ∈ q.2.2, e < (scaleM size q.2.1).length; rw [hl]; exact valid_ss hv, valid_all hv hs, hf0.2.1⟩) (fun H1 x v r => r)) fun u H4 e4 r => k _ _ (e13.trans e4) r⟩)
end
end GF
set_option Elab.async false
set_option linter.all false
/-! The law's own counts in plain Lean. -/
namespace GF
def lawStake (b : Int) (ps : List P2) (often : Int) (n : Nat) : Bool := decide ((often * (at_ ps n).1).fmod b = 0) && decide ((often * (at_ ps n).2).fmod b = 0)
def nextM (n s : Nat) : Nat := (s + 1) % n
def dropM (b : Int) (ps : List P2) (ss : List Nat) (often : Int) (e : Nat) : Bool := decide (nextM ps.length e ∈ ss) && lawStake b ps often (nextM ps.length e)
def openM (b : Int) (ps : List P2) (ss : List Nat) (often : Int) : Int :=
  if ps.length < 3 then (ss.map fun e => sideM b (scaleM often ps) e).sum
  else (ss.map fun e => sideM b (scaleM often ps) e).sum - ((ss.filter fun e => dropM b ps ss often e).length : Int)
def coord (w : Nat) (p : P2) : Int := if w = 0 then p.1 else p.2
def boxAt (b : Int) (ps : List P2) (often : Int) (w : Nat) : P2 := (0 - (0 - minL (ps.map fun p => often * coord w p)).fdiv b, (maxL (ps.map fun p => often * coord w p)).fdiv b)
end GF
set_option Elab.async false
set_option linter.all false
set_option maxRecDepth 100000
set_option maxHeartbeats 4000000
set_option exponentiation.threshold 100000
namespace GF
open PySem PySem.Spec PyProof.Rows L2 Evl
/-- for x in a tuple made on the way -/
theorem q_forNT {K : PySem.W.Frag} {D : Ends} {σ : L2.St} {H : Hp} {g : TG} {tu tz : TS} {xs : List V} {tl : TE} (h : EvU tl σ H xs) (Pv : Addr → Nat → L2.St → Hp → Prop) (h0 : ∀ p H1, H p = none → Ex H H1 → H1 p = some (.tup xs) → Pv p 0 σ H1) (hl : ∀ p i σ' H', i ≤ xs.length → Pv p i σ' H' → SqT K H' p xs)
    (hs : ∀ p i x σ' H', xs[i]? = some x → Pv p i σ' H' → g x σ' H' fun σ2 H2 => tu { D with nx := Pv p (i + 1), ct := Pv p (i + 1), bk := tz D } σ2 H2) (hd : ∀ p σ' H', Pv p xs.length σ' H' → tz D σ' H') : tSeq (tFor (iTup K tl) g tu) tz D σ H :=
  h H (Ex.refl H) _ fun p H1 hp e h1 => ⟨p, rfl, ⟨xs, st_of h1⟩, for_tup (D := { D with nx := tz D }) (Pv p) (h0 p H1 hp e h1) (hl p) (hs p) (hd p)⟩
theorem LR.of_nats {H : Hp} {a : Addr} {ns : List Nat} (h : H a = some (.lst (ns.map fun n : Nat => V.int (n : Int)))) : LR IsN H (.ref a) ns := ⟨a, _, rfl, h, by simp, fun i v x e1 e2 => by
  rw [List.getElem?_map, e2] at e1
  cases e1
  rfl⟩
section
variable {P : Program} {w : World} {K : PySem.W.Frag} {mg : Str → Option Value} {base : Heap} {f : Addr} {fd : FuncData}
theorem corner_bd {q : Fen} (hv : Valid q) {i : Nat} (hi : i < q.2.1.length) : BdP 100 (at_ q.2.1 i) := bd_place (hv.2.2.1.2.2.1 _ (mem_at hi))
def spLStake : Sp := mkSp (α := Fen × Int × Nat) (fun a H vs => ∃ v, vs = [v, .int a.2.1, .int (a.2.2 : Int)] ∧ FenV H v a.1 ∧ Valid a.1 ∧ SzOk a.2.1 ∧ a.2.2 < a.1.2.1.length) (fun a _ v => v = .bl (lawStake a.1.1 a.1.2.1 a.2.1 a.2.2))
theorem sc_law_is_stake : FnScope ["_law_plot_here", "_law_often", "_law_spot", "_law_x", "_law_y"] ["_law_plot_here", "_law_often", "_law_spot"] (defScope s_law_is_stake) := ⟨rfl, rfl, rfl, by decide +kernel, rfl, by decide +kernel, by decide +kernel⟩
theorem ok_law_is_stake (F : FnP K "_law_is_stake" s_law_is_stake f fd) (N : Nm mg) : FnOk P w K mg base CX0 1 f fd ["_law_plot_here", "_law_often", "_law_spot"] spLStake :=
  F.ok sc_law_is_stake (len_mk fun _ _ _ ⟨_, h, _⟩ => by rw [h]; rfl) (fun cdv A outer s H vs Q E hr h => ⟨_, PSs.nox (pss_cons (ps_asg (pe_ix ix_seq (pe_ix ix_seq (pv 0) pe_int (fun _ _ => rfl)) (pv 2) (fun _ _ => rfl)) (pg_tup rfl (pgs_cons (pg_name (i := 3) sc_law_is_stake.nd rfl (Or.inl rfl)) (pgs_cons (pg_name (i := 4) sc_law_is_stake.nd rfl (Or.inl rfl)) pgs_nil)))) (pss_one (ps_ret (pe_and (pe_cmpR op_eq (pe_op op_modN (pe_callTy call_int1 (by rfl) N.int (by decide +kernel) (pa_cons (pe_op op_mulW (pv 1) (pv 3)) pa_nil)) (pe_ix ix_seq (pv 0) pe_int (fun _ _ => rfl))) pe_int (nomark _)) (pe_one (pe_cmpR op_eq (pe_op op_modN (pe_callTy call_int1 (by rfl) N.int (by decide +kernel) (pa_cons (pe_op op_mulW (pv 1) (pv 4)) pa_nil)) (pe_ix ix_seq (pv 0) pe_int (fun _ _ => rfl))) pe_int (nomark _))))))), by
    obtain ⟨⟨q, often, n⟩, ⟨v, rfl, hf, hv, hs, hn⟩, k⟩ := h
    have hn : n < q.2.1.length := hn
    have hv : Valid q := hv
    have hf : FenV H v q := hf
    obtain ⟨x, y, ht, hx, hy⟩ := hf.tn
    have hb0 : q.1 ≠ 0 := by have := hv.1; omega
    have hcb := corner_bd hv hn
    have hob := size_bd hs (n := 100) (by decide)
    obtain ⟨w0, a0, b0⟩ := er_ixL (K := K) (ev_ixt (ev_var (σ := L2.start ["_law_plot_here", "_law_often", "_law_spot", "_law_x", "_law_y"] [v, .int often, .int (n : Int)]) (i := 0) rfl) ht (ev_c (v := .int 1)) rfl) hx mo_t2 (ev_var (i := 2) rfl) (at_get hn)
    refine q_asg2 (S := fun _ x y => x = .int (at_ q.2.1 n).1 ∧ y = .int (at_ q.2.1 n).2) (er_ev a0 fun H1 e => ⟨_, _, mo_t2 _ _ _ _ e b0, rfl, rfl⟩) ?_
    rintro x1 y1 H1 e1 ⟨rfl, rfl⟩
    have ht1 := mo_tn _ _ _ _ e1 ht
    exact s_ret (v := .bl (lawStake q.1 q.2.1 often n)) (ev_andV (ev_op (ev_op (ev_intI (ev_op (ev_var rfl) (ev_var rfl) (rv_I (cmulB hob hcb.1 (by decide))))) (ev_ixt (ev_var rfl) ht1 ev_c rfl) (rv_I hb0)) ev_c rv_eqI) fun _ => ev_op (ev_op (ev_intI (ev_op (ev_var rfl) (ev_var rfl) (rv_I (cmulB hob hcb.2 (by decide))))) (ev_ixt (ev_var rfl) ht1 ev_c rfl) (rv_I hb0)) ev_c rv_eqI) fun H2 e2 => k _ _ (e1.trans e2) rfl⟩)
theorem fmod_next {n s : Nat} (hn : 0 < n) : ((s : Int) + 1).fmod (n : Int) = ((nextM n s : Nat) : Int) := by
  rw [Int.fmod_eq_emod_of_nonneg _ (by omega)]
  rfl
def spOpen : Sp := mkSp (α := Fen × Int) (fun a H vs => ∃ v, vs = [v, .int a.2] ∧ FenV H v a.1 ∧ Valid a.1 ∧ SzOk a.2) (fun a _ v => v = .int (openM a.1.1 a.1.2.1 a.1.2.2 a.2))
theorem sc_law_on_open : FnScope ["_law_plot_here", "_law_often", "_law_low", "_law_corners_here", "_law_shut", "_law_found", "_law_edge"] ["_law_plot_here", "_law_often"] (defScope s_law_on_open) := ⟨rfl, rfl, rfl, by decide +kernel, rfl, by decide +kernel, by decide +kernel⟩
theorem ok_law_on_open (F : FnP K "_law_on_open" s_law_on_open f fd) (N : Nm mg) {fI fJ : Addr} {fdI fdJ : FuncData} (u_side_count : Use P w K mg base "side_count" 8 ["fence", "side", "size"] spSideCount fI fdI) (u_law_is_stake : Use P w K mg base "_law_is_stake" 1 ["_law_plot_here", "_law_often", "_law_spot"] spLStake fJ fdJ) : FnOk P w K mg base CX0 9 f fd ["_law_plot_here", "_law_often"] spOpen :=
  F.ok sc_law_on_open (len_mk fun _ _ _ ⟨_, h, _⟩ => by rw [h]; rfl) (fun cdv A outer s H vs Q E hr h => ⟨_, PSs.nox (pss_cons (ps_asg (pv 0) (pg_tup rfl (pgs_cons (pg_name (i := 2) sc_law_on_open.nd rfl (Or.inl rfl)) (pgs_cons (pg_name (i := 3) sc_law_on_open.nd rfl (Or.inl rfl)) (pgs_cons (pg_name (i := 4) sc_law_on_open.nd rfl (Or.inl rfl)) pgs_nil))))) (pss_cons (ps_set (i := 5) sc_law_on_open.nd rfl (Or.inl rfl) (pe_callB (cr_sum rfl) (by rfl) N.sum (by decide +kernel) (pa_cons (pe_lc (own := [("_law_edge", 6)]) (g := gName 6) rfl sc_law_on_open.nd (pi_list (pv 4)) (blkOk_by (own := [("_law_edge", 6)]) (N := ["_law_plot_here", "_law_often", "_law_low", "_law_corners_here", "_law_shut", "_law_found", "_law_edge"]) (sc := defScope s_law_on_open) (by decide +kernel)) (fun _ _ _ _ _ => (pg_name (i := 6) sc_law_on_open.nd rfl (Or.inl rfl))) (fun _ _ _ _ _ => pts_nil) (fun _ _ _ _ _ => (pe_call u_side_count.ok (hr.mono (by decide)) rfl u_side_count.g u_side_count.kp u_side_count.b .nil pass0 (pa_cons (pv 0) (pa_cons (pv 6) (pa_cons (pv 1) pa_nil)))))) pa_nil))) (pss_cons (ps_if (pt_cmpR op_lt (pe_callB call_len_seq (by rfl) N.len (by decide +kernel) (pa_cons (pv 3) pa_nil)) pe_int (nomark _)) (pss_one (ps_ret (pv 5))) pss_nil) (pss_cons (ps_for PassesOwn.never rfl (pi_list (pv 4)) (pg_name (i := 6) sc_law_on_open.nd rfl (Or.inl rfl)) (pss_one (ps_if (PW.pt (pw_and (pt_cmpR op_in_seq (pe_op op_modN (pe_callTy call_int1 (by rfl) N.int (by decide +kernel) (pa_cons (pe_op op_add (pv 6) pe_int) pa_nil)) (pe_callB call_len_seq (by rfl) N.len (by decide +kernel) (pa_cons (pv 3) pa_nil))) (pv 4) (by rfl)) (pw_and1 (pt_val (pe_call u_law_is_stake.ok (hr.mono (by decide)) rfl u_law_is_stake.g u_law_is_stake.kp u_law_is_stake.b .nil pass0 (pa_cons (pv 0) (pa_cons (pv 1) (pa_cons (pe_op op_modN (pe_callTy call_int1 (by rfl) N.int (by decide +kernel) (pa_cons (pe_op op_add (pv 6) pe_int) pa_nil)) (pe_callB call_len_seq (by rfl) N.len (by decide +kernel) (pa_cons (pv 3) pa_nil))) pa_nil)))))))) (pss_one (ps_set (i := 5) sc_law_on_open.nd rfl (Or.inl rfl) (pe_op op_sub (pv 5) pe_int))) pss_nil))) (pss_one (ps_ret (pv 5))))))), by
    obtain ⟨⟨q, often⟩, ⟨v, rfl, hf, hv, hs⟩, k⟩ := h
    have hv : Valid q := hv
    have hf : FenV H v q := hf
    obtain ⟨x, y, ht, hx, hy⟩ := hf.tn
    have hz := valid_len hv
    have hfen := valid_fen hv
    refine q_tup3 (ev_var rfl) ht fun H1 e1 => ?_
    have hy1 := mo_lr mt_n.mo _ _ _ _ e1 hy
    refine q_asg (v := .int (q.2.2.map fun e => sideM q.1 (scaleM often q.2.1) e).sum) (ev_sumR ?_) fun H2 e2 => ?_
    · rw [← fil_true q.2.2]
      refine er_lc (S := IsN) (S' := IsI) (xs := q.2.2) (fun _ => true) (fun e => sideM q.1 (scaleM often q.2.1) e) mt_n.mo mt_int (er_var rfl ((mo_lr mt_n.mo).at _) hy1) (by omega) fun e H3 he e3 => tn_name (fun _ => rfl) fun u H4 e4 su => ?_
      cases su
      exact er_use (q, e, often) (ea3 (ev_var rfl) (ev_var rfl) (ev_var rfl)) fun H5 e5 => ⟨v, rfl, mo_fen _ _ _ _ (((e1.trans e3).trans e4).trans e5) hf, hv, hs, hv.2.2.2.2 e he⟩
    have e12 := e1.trans e2
    refine q_when (et_test (ev_op (ev_lenL (ev_var rfl) (mo_lr mo_t2 _ _ _ _ e12 hx)) ev_c rv_I0)) (fun hlt H3 e3 => ?_) (fun hlt H3 e3 => ?_)
    · have hlt : (q.2.1.length : Int) < 3 := of_decide_eq_true hlt
      refine s_ret (ev_var rfl) fun H4 e4 => k _ _ ((e12.trans e3).trans e4) ?_
      show V.int _ = V.int (openM q.1 q.2.1 q.2.2 often)
      unfold openM
      rw [if_pos (by omega)]
    have hlt : ¬ (q.2.1.length : Int) < 3 := of_decide_eq_false hlt
    have e13 := e12.trans e3
    have hy3 := mo_lr mt_n.mo _ _ _ _ e13 hy
    obtain ⟨a, rfl, ha⟩ := hy3.nats
    refine q_forLn (ev_var rfl) (sq_of ha) (fun i σ H' => Ex H3 H' ∧ ∃ (t : Int) (x6 : Option V), σ = [some v, some (.int often), some (.int q.1), some x, some (.ref a), some (.int t), x6] ∧ t = (q.2.2.map fun e => sideM q.1 (scaleM often q.2.1) e).sum - (((q.2.2.take i).filter fun e => dropM q.1 q.2.1 q.2.2 often e).length : Int)) (fun H4 e4 => ⟨e4, _, _, rfl, by simp⟩) (fun i σ H' _ pv => sq_of (pv.1 _ _ ha)) ?_ ?_
    · rintro i u σ H4 hu ⟨e4, t, x6, rfl, hti⟩
      rw [List.getElem?_map] at hu
      cases he : q.2.2[i]? with
      | none =>
        rw [he] at hu
        cases hu
      | some e =>
        rw [he] at hu
        cases hu
        have e14 := e13.trans e4
        have hne : (q.2.1.length : Int) ≠ 0 := by omega
        have hnl : nextM q.2.1.length e < q.2.1.length := Nat.mod_lt _ (by omega)
        have vn : Ev (tOp (rI (fun _ j => j ≠ 0) fun i j => .int (i.fmod j)) (tCB (fun xs H Q => (∃ i, xs = [.int i] ∧ Q (.int i) H) ∨ ∃ k, xs = [.bl k] ∧ Q (.int (if k then 1 else 0)) H) (tCons (tOp (rI0 fun i j => .int (i + j)) (tVar 6) (tC (.int 1))) tNil)) (tCB (Evl.rLenS K) (tCons (tVar 3) tNil))) [some v, some (.int often), some (.int q.1), some x, some (.ref a), some (.int t), some (.int (e : Int))] H4 (.int ((nextM q.2.1.length e : Nat) : Int)) := by
          rw [← fmod_next (by omega)]
          exact ev_op (ev_intI (ev_op (ev_var rfl) ev_c rv_I0)) (ev_lenL (ev_var rfl) (mo_lr mo_t2 _ _ _ _ e14 hx)) (rv_I hne)
        have htk := take_succ_f he (fun e => dropM q.1 q.2.1 q.2.2 often e) (fun e => e)
        rw [List.map_id', List.map_id'] at htk
        refine s_when (b := dropM q.1 q.2.1 q.2.2 often e) (et_and (et_test (ev_inN (v := .ref a) vn (ev_var rfl) (LR.of_nats (e4 _ _ ha)))) fun _ => et_B (ev_er (er_use (q, often, nextM q.2.1.length e) (ea3 (ev_var rfl) (ev_var rfl) vn) fun H5 e5 => ⟨v, rfl, mo_fen _ _ _ _ (e14.trans e5) hf, hv, hs, hnl⟩))) (fun hd H5 e5 => ?_) (fun hd H5 e5 => ?_)
        · refine s_asg (ev_op (ev_var rfl) ev_c rv_I0) fun H6 e6 => ⟨(e4.trans e5).trans e6, t - 1, _, rfl, ?_⟩
          rw [htk, if_pos hd, List.length_append, hti]
          simp
          omega
        · refine ⟨e4.trans e5, t, _, rfl, ?_⟩
          rw [htk, if_neg (by rw [hd]; decide), List.append_nil, hti]
    · rintro σ H4 ⟨e4, t, x6, rfl, hti⟩
      refine s_ret (ev_var rfl) fun H5 e5 => k _ _ ((e13.trans e4).trans e5) ?_
      show V.int t = V.int (openM q.1 q.2.1 q.2.2 often)
      unfold openM
      rw [if_neg (by omega), hti, List.length_map, List.take_length]⟩)
/-! ### _law_box -/
def spBox : Sp := mkSp (α := Fen × Int) (fun a H vs => ∃ v, vs = [v, .int a.2] ∧ FenV H v a.1 ∧ Valid a.1 ∧ SzOk a.2) (fun a H v => LR T2 H v [boxAt a.1.1 a.1.2.1 a.2 0, boxAt a.1.1 a.1.2.1 a.2 1])
theorem sc_law_box : FnScope ["_law_plot_here", "_law_often", "_law_found", "_law_way", "_law_some", "_law_one"] ["_law_plot_here", "_law_often"] (defScope s_law_box) := ⟨rfl, rfl, rfl, by decide +kernel, rfl, by decide +kernel, by decide +kernel⟩
theorem ok_law_box (F : FnP K "_law_box" s_law_box f fd) (N : Nm mg) : FnOk P w K mg base CX0 1 f fd ["_law_plot_here", "_law_often"] spBox :=
  F.ok sc_law_box (len_mk fun _ _ _ ⟨_, h, _⟩ => by rw [h]; rfl) (fun cdv A outer s H vs Q E hr h => ⟨_, PSs.nox (pss_cons (ps_set (i := 2) sc_law_box.nd rfl (Or.inl rfl) (pe_lst pa_nil)) (pss_cons (ps_for PassesOwn.never rfl (pi_tup (pe_tup (pa_cons pe_int (pa_cons pe_int pa_nil)))) (pg_name (i := 3) sc_law_box.nd rfl (Or.inr rfl)) (pss_cons (ps_setLc (i := 4) (own := [("_law_one", 5)]) (g := gName 5) rfl sc_law_box.nd rfl rfl (sw_true rfl rfl rfl (by decide +kernel)) (pi_list (pe_ix ix_seq (pv 0) pe_int (fun _ _ => rfl))) (blkOk_by (own := [("_law_one", 5)]) (N := ["_law_plot_here", "_law_often", "_law_found", "_law_way", "_law_some", "_law_one"]) (sc := defScope s_law_box) (by decide +kernel)) (fun _ _ _ _ _ => (pg_name (i := 5) sc_law_box.nd rfl (Or.inl rfl))) (fun _ _ _ _ _ => pts_nil) (fun _ _ _ _ _ => (pe_op op_mulW (pv 1) (pe_ix (ix_seqK (K := K) rfl) (pv 5) (pv 3) (fun _ _ => rfl))))) (pss_one (ps_expr (pe_bm PySem.F.plainAttrs_list PySem.F.slot_list_append PySem.F.type_list_append mt_append (pv 2) (pa_cons (pe_tup (pa_cons (pe_op op_sub pe_int (pe_op op_fdivX (pe_op op_sub pe_int (pe_callB (cr_min rfl) (by rfl) N.min (by decide +kernel) (pa_cons (pv 4) pa_nil))) (pe_ix ix_seq (pv 0) pe_int (fun _ _ => rfl)))) (pa_cons (pe_op op_fdivX (pe_callB (cr_max rfl) (by rfl) N.max (by decide +kernel) (pa_cons (pv 4) pa_nil)) (pe_ix ix_seq (pv 0) pe_int (fun _ _ => rfl))) pa_nil))) pa_nil)))))) (pss_one (ps_ret (pv 2))))), by
    obtain ⟨⟨q, often⟩, ⟨v, rfl, hf, hv, hs⟩, k⟩ := h
    have hv : Valid q := hv
    have hf : FenV H v q := hf
    obtain ⟨x, y, ht, hx, hy⟩ := hf.tn
    have hfen := valid_fen hv
    have hb0 : q.1 ≠ 0 := by have := hv.1; omega
    have hob := size_bd hs (n := 100) (by decide)
    refine ⟨by decide, fun Dl hD => ?_⟩
    refine q_forNT (xs := [.int 0, .int 1]) (eu_tup (ea2 ev_c ev_c) (by simp)) (fun p i σ H' => H' p = some (.tup [.int 0, .int 1]) ∧ Ex H H' ∧ ∃ (x3 x4 x5 : Option V) (acc : List V), σ = [some v, some (.int often), some (.ref Dl), x3, x4, x5] ∧ H' Dl = some (.lst acc) ∧ All2 (T2 H') acc ([boxAt q.1 q.2.1 often 0, boxAt q.1 q.2.1 often 1].take i)) (fun p H1 hp e1 h1 => ⟨h1, (Ex.new hD).trans e1, _, _, _, [], rfl, e1 _ _ upd_same, All2.nil⟩) (fun p i σ H' _ pv => st_of pv.1) (fun pt i u σ H1 hu ⟨hpt, e1, x3, x4, x5, acc, hσ, hacc, hA⟩ => ?_) (fun pt σ H1 ⟨hpt, e1, x3, x4, x5, acc, hσ, hacc, hA⟩ => ?_)
    · subst hσ
      have hi : i < 2 := (List.getElem?_eq_some_iff.mp hu).1
      have hu2 : u = .int (i : Int) := by
        match i, hi, hu with
        | 0, _, hu => cases hu; rfl
        | 1, _, hu => cases hu; rfl
      subst hu2
      have hw : ∀ w : Nat, w < 2 → ∀ p : P2, atI [V.int p.1, V.int p.2] (w : Int) = some (.int (coord w p)) := fun w hw p => by
        match w, hw with
        | 0, _ => rfl
        | 1, _ => rfl
      refine q_asgR (R := fun H' v => LR IsI H' v (q.2.1.map fun p => often * coord i p)) ?_ fun vs H2 e2 rs => ?_
      · rw [← fil_true q.2.1]
        refine er_lc (S := T2) (S' := IsI) (xs := q.2.1) (fun _ => true) (fun p => often * coord i p) mo_t2 mt_int (er_ev (ev_ixt (ev_var rfl) (mo_tn _ _ _ _ e1 ht) ev_c rfl) fun H3 e3 => mo_lr mo_t2 _ _ _ _ (e1.trans e3) hx) (by have := hfen.2.2.2.1; omega) fun p H3 hp e3 => tn_name (fun _ => rfl) fun u H4 e4 su => ?_
        have hpb := bd_place (hv.2.2.1.2.2.1 p hp)
        have hcb : Bd 100 (coord i p) := by
          unfold coord
          split
          · exact hpb.1
          · exact hpb.2
        exact er_ev (ev_op (ev_var rfl) (ev_ixt (ev_var rfl) su (ev_var rfl) (hw i hi p)) (rv_I (cmulB hob hcb (by decide)))) fun _ _ => rfl
      have hl : 0 < (q.2.1.map fun p => often * coord i p).length := by rw [List.length_map]; exact hfen.2.2.1
      have e12 := e1.trans e2
      have ht2 := mo_tn _ _ _ _ e12 ht
      refine s_appU (ys := [.int (boxAt q.1 q.2.1 often i).1, .int (boxAt q.1 q.2.1 often i).2]) (e2 _ _ hacc) (ev_var rfl) (eu_tup (ea2 (ev_op ev_c (ev_op (ev_op ev_c (ev_minI (ev_var rfl) rs hl) rv_I0) (ev_ixt (ev_var rfl) ht2 ev_c rfl) (rv_I (cdivB hb0 hfen.2.1 (by decide)))) rv_I0) (ev_op (ev_maxI (ev_var rfl) rs hl) (ev_ixt (ev_var rfl) ht2 ev_c rfl) (rv_I (cdivB hb0 hfen.2.1 (by decide))))) (by simp)) (by have := hA.1; rw [List.length_take] at this; simp at this; omega) fun p H3 hp e3 h3 => ?_
      have hD3 : H3 Dl = some (.lst acc) := e3 _ _ (e2 _ _ hacc)
      refine ⟨?_, Ex.mut (e12.trans e3) hD, _, _, _, acc ++ [.ref p], rfl, upd_same, ?_⟩
      · have := e3 _ _ (e2 _ _ hpt)
        rw [upd_ne fun z => by rw [z, hD3] at this; cases this]
        exact this
      have et : [boxAt q.1 q.2.1 often 0, boxAt q.1 q.2.1 often 1].take (i + 1) = [boxAt q.1 q.2.1 often 0, boxAt q.1 q.2.1 often 1].take i ++ [boxAt q.1 q.2.1 often i] := by
        match i, hi with
        | 0, _ => rfl
        | 1, _ => rfl
      rw [et]
      refine All2.app (hA.mono fun v x h => mt_t2 _ _ _ _ (TupUp.lst hD3) (mt_t2.mo _ _ _ _ (e2.trans e3) h)) (All2.one ⟨p, rfl, ?_⟩)
      rw [upd_ne fun z => by rw [z, hD3] at h3; cases h3]
      exact h3
    · subst hσ
      exact s_ret (ev_var rfl) fun H2 e2 => k _ _ (e1.trans e2) ⟨Dl, acc, rfl, e2 _ _ hacc, hA.mono fun v x h => mt_t2.mo _ _ _ _ e2 h⟩⟩)
end
end GF
set_option Elab.async false
set_option linter.all false
set_option maxRecDepth 100000
set_option maxHeartbeats 4000000
set_option exponentiation.threshold 100000
namespace GF
open PySem PySem.Spec PyProof.Rows L2 Evl
/-! ### the pool: a list that is written -/
def ExQ (q : Addr) (H H' : Hp) : Prop := ∀ a o, a ≠ q → H a = some o → H' a = some o
theorem ExQ.refl (q : Addr) (H : Hp) : ExQ q H H := fun _ _ _ h => h
theorem ExQ.trans {q : Addr} {H H1 H2 : Hp} (a : ExQ q H H1) (b : ExQ q H1 H2) : ExQ q H H2 := fun x o n h => b x o n (a x o n h)
theorem Ex.q {q : Addr} {H H' : Hp} (e : Ex H H') : ExQ q H H' := fun a o _ h => e a o h
theorem ExQ.upd {q : Addr} {H : Hp} {o : HO} : ExQ q H (upd H q o) := fun a u n h => by
  rw [upd_ne n]
  exact h
def Pool (H : Hp) (q : Addr) (k : Nat) : Prop := ∃ a b c : Int, H q = some (.lst [.int a, .int b, .int c]) ∧ Bd 200 b ∧ 0 ≤ c ∧ c + k ≤ 10000
theorem Pool.mono {H H' : Hp} {q : Addr} {k : Nat} (e : Ex H H') (h : Pool H q k) : Pool H' q k := by
  obtain ⟨a, b, c, h1, h2⟩ := h
  exact ⟨a, b, c, e _ _ h1, h2⟩
theorem Pool.less {H : Hp} {q : Addr} {k m : Nat} (h : Pool H q k) (l : m ≤ k) : Pool H q m := by
  obtain ⟨a, b, c, h1, h2, h3, h4⟩ := h
  exact ⟨a, b, c, h1, h2, h3, by omega⟩
/-- what is not the pool -/
theorem q_tup {H H' : Hp} {q : Addr} {k : Nat} (p : Pool H q k) (e : ExQ q H H') : TupUp H H' := fun a xs h => e a _ (fun z => by
  obtain ⟨a1, b1, c1, h1, _⟩ := p
  rw [z, h1] at h
  cases h) h
/-- facts stand over the heap without the pool -/
def hole (q : Addr) (H : Hp) : Hp := fun a => if a = q then none else H a
theorem hole_ex {q : Addr} {H H' : Hp} (e : ExQ q H H') : Ex (hole q H) (hole q H') := fun a o h => by
  have h : (if a = q then none else H a) = some o := h
  show (if a = q then none else H' a) = some o
  by_cases z : a = q
  · rw [if_pos z] at h
    cases h
  · rw [if_neg z] at h ⊢
    exact e a o z h
theorem hole_sub {q : Addr} {H : Hp} : Ex (hole q H) H := fun a o h => by
  have h : (if a = q then none else H a) = some o := h
  by_cases z : a = q
  · rw [if_pos z] at h
    cases h
  · rw [if_neg z] at h
    exact h
theorem hole_at {q : Addr} {H : Hp} {a : Addr} {o : HO} (h : H a = some o) (n : a ≠ q) : hole q H a = some o := by
  show (if a = q then none else H a) = some o
  rw [if_neg n]
  exact h
theorem hole_tup {q : Addr} {H : Hp} {k : Nat} (p : Pool H q k) : TupUp H (hole q H) := fun a xs h => hole_at h fun z => by
  obtain ⟨a1, b1, c1, h1, _⟩ := p
  rw [z, h1] at h
  cases h
theorem hole_off {q : Addr} {H : Hp} : hole q H q = none := if_pos rfl
def spDraw : Sp := fun vs H Q _ => ∃ (q : Addr) (n : Int) (k : Nat), vs = [.ref q, .int n] ∧ Pool H q (k + 1) ∧ 0 < n ∧ Bd 8000 n ∧ ∀ d H', 0 ≤ d → d < n → Pool H' q k → ExQ q H H' → Q (.int d) H'
section
variable {P : Program} {w : World} {K : PySem.W.Frag} {mg : Str → Option Value} {base : Heap} {f : Addr} {fd : FuncData}
theorem ev_p3 {te : TE} {σ : L2.St} {H : Hp} {q : Addr} {xs : List V} {i : Int} {v : V} (h : Ev te σ H (.ref q)) (hl : H q = some (.lst xs)) (hi : atI xs i = some v) : Ev (tOp (rIx K) te (tC (.int i))) σ H v := ev_op h ev_c (rv_ixl hl hi)
theorem cpow {i : Int} {n : Nat} (h : Bd n i) (hn : (n + 1) * 3 ≤ 134217728) : CPowW i 3 := powW_ok (j := 3) h hn
theorem sc_law_draw : FnScope ["_law_pool_here", "_law_span", "_law_drawn", "_law_mixed"] ["_law_pool_here", "_law_span"] (defScope s_law_draw) := ⟨rfl, rfl, rfl, by decide +kernel, rfl, by decide +kernel, by decide +kernel⟩
theorem ok_law_draw (F : FnP K "_law_draw" s_law_draw f fd) (N : Nm mg) : FnOk P w K mg base CX0 1 f fd ["_law_pool_here", "_law_span"] spDraw :=
  F.ok sc_law_draw (fun _ _ _ _ ⟨_, _, _, h, _⟩ => by rw [h]; rfl) (fun cdv A outer s H vs Q E hr h => ⟨_, PSs.nox (pss_cons (ps_if (pt_cmpR op_gt (pe_ix ix_seq (pv 0) pe_int (fun _ _ => rfl)) pe_int (nomark _)) (pss_cons (ps_set (i := 2) sc_law_draw.nd rfl (Or.inl rfl) (pe_op op_modN (pe_callTy call_int1 (by rfl) N.int (by decide +kernel) (pa_cons (pe_ix ix_seq (pv 0) pe_int (fun _ _ => rfl)) pa_nil)) (pv 1))) (pss_cons (ps_asg (pe_op op_fdivX (pe_ix ix_seq (pv 0) pe_int (fun _ _ => rfl)) (pv 1)) (pg_sub (pv 0) pe_int set_list)) (pss_one (ps_ret (pv 2))))) pss_nil) (pss_cons (ps_asg (pe_op op_add (pe_ix ix_seq (pv 0) pe_int (fun _ _ => rfl)) pe_int) (pg_sub (pv 0) pe_int set_list)) (pss_cons (ps_set (i := 3) sc_law_draw.nd rfl (Or.inl rfl) (pe_op op_modN (pe_callTy call_int1 (by rfl) N.int (by decide +kernel) (pa_cons (pe_op op_powW (pe_op op_add (pe_ix ix_seq (pv 0) pe_int (fun _ _ => rfl)) (pe_op op_mulW pe_int (pe_ix ix_seq (pv 0) pe_int (fun _ _ => rfl)))) pe_int) pa_nil)) (pe_op op_add (pe_op op_powW pe_int pe_int) pe_int))) (pss_cons (ps_set (i := 3) sc_law_draw.nd rfl (Or.inl rfl) (pe_op op_modN (pe_callTy call_int1 (by rfl) N.int (by decide +kernel) (pa_cons (pe_op op_powW (pe_op op_add (pv 3) (pe_op op_mulW pe_int (pe_ix ix_seq (pv 0) pe_int (fun _ _ => rfl)))) pe_int) pa_nil)) (pe_op op_add (pe_op op_powW pe_int pe_int) pe_int))) (pss_one (ps_ret (pe_op op_modN (pe_callTy call_int1 (by rfl) N.int (by decide +kernel) (pa_cons (pe_op op_fdivX (pv 3) pe_int) pa_nil)) (pv 1)))))))), by
    obtain ⟨q, n, kk, rfl, ⟨a, b, c, hp, hb, hc0, hck⟩, hn, hn2, k⟩ := h
    have hn0 : n ≠ 0 := by omega
    refine q_when (et_test (ev_op (ev_p3 (ev_var rfl) hp rfl) ev_c rv_I0)) (fun ha H1 e1 => ?_) (fun ha H1 e1 => ?_)
    · have h1 := e1 _ _ hp
      refine q_asg (ev_op (ev_intI (ev_p3 (ev_var rfl) h1 rfl)) (ev_var rfl) (rv_I hn0)) fun H2 e2 => ?_
      have h2 := e2 _ _ h1
      refine q_setL (j := 0) h2 (ev_op (ev_p3 (ev_var rfl) h2 rfl) (ev_var rfl) (rv_I (cdivB hn0 hn2 (by decide)))) (ev_var rfl) ev_c (by simp) fun H3 e3 => ?_
      refine s_ret (ev_var rfl) fun H4 e4 => k _ _ (Int.fmod_nonneg_of_pos a hn) (Int.fmod_lt_of_pos a hn) ⟨_, b, c, e4 _ _ upd_same, hb, hc0, by omega⟩ ?_
      exact ((((Ex.q e1).trans (Ex.q e2)).trans (Ex.q e3)).trans ExQ.upd).trans (Ex.q e4)
    · have h1 := e1 _ _ hp
      refine q_setL (j := 2) h1 (ev_op (ev_p3 (ev_var rfl) h1 (i := 2) rfl) ev_c rv_I0) (ev_var rfl) ev_c (by simp) fun H2 e2 => ?_
      have hc1 : Bd 20 (c + 1) := by
        unfold Bd
        have : (c + 1).natAbs ≤ 10001 := by omega
        exact Nat.lt_of_le_of_lt this (by decide)
      have m1 : Bd 30 (15485863 : Int) := by unfold Bd; decide
      have m2 : Bd 30 (32452843 : Int) := by unfold Bd; decide
      have p60 : ((10 : Int) ^ (60 : Int).toNat + 7) ≠ 0 := by decide +kernel
      have p62 : ((10 : Int) ^ (62 : Int).toNat + 31) ≠ 0 := by decide +kernel
      have p60p : 0 < ((10 : Int) ^ (60 : Int).toNat + 7) := by decide +kernel
      have p62p : 0 < ((10 : Int) ^ (62 : Int).toNat + 31) := by decide +kernel
      have b60 : Bd 300 ((10 : Int) ^ (60 : Int).toNat + 7) := by unfold Bd; decide +kernel
      have c60 : CPowW 10 60 := by unfold CPowW; decide +kernel
      have c62 : CPowW 10 62 := by unfold CPowW; decide +kernel
      have hp2 : upd H2 q (.lst [.int a, .int b, .int (c + 1)]) q = some (.lst [.int a, .int b, .int (c + 1)]) := upd_same
      refine q_asg (v := .int (((b + 15485863 * (c + 1)) ^ (3 : Int).toNat).fmod (10 ^ (60 : Int).toNat + 7))) (ev_op (ev_intI (ev_op (ev_op (ev_p3 (ev_var rfl) hp2 (i := 1) rfl) (ev_op ev_c (ev_p3 (ev_var rfl) hp2 (i := 2) rfl) (rv_I (cmulB m1 hc1 (by decide)))) rv_I0) ev_c (rv_I (cpow (hb.add (m1.mul hc1)) (by decide))))) (ev_op (ev_op ev_c ev_c (rv_I c60)) ev_c rv_I0) (rv_I p60)) fun H3 e3 => ?_
      have h3 := e3 _ _ hp2
      have hm : Bd 300 (((b + 15485863 * (c + 1)) ^ (3 : Int).toNat).fmod (10 ^ (60 : Int).toNat + 7)) := by
        have x1 := Int.fmod_nonneg_of_pos ((b + 15485863 * (c + 1)) ^ (3 : Int).toNat) p60p
        have x2 := Int.fmod_lt_of_pos ((b + 15485863 * (c + 1)) ^ (3 : Int).toNat) p60p
        exact b60.nn x1 (by omega)
      generalize ((b + 15485863 * (c + 1)) ^ (3 : Int).toNat).fmod (10 ^ (60 : Int).toNat + 7) = mixed at *
      refine q_asg (v := .int (((mixed + 32452843 * (c + 1)) ^ (3 : Int).toNat).fmod (10 ^ (62 : Int).toNat + 31))) (ev_op (ev_intI (ev_op (ev_op (ev_var rfl) (ev_op ev_c (ev_p3 (ev_var rfl) h3 (i := 2) rfl) (rv_I (cmulB m2 hc1 (by decide)))) rv_I0) ev_c (rv_I (cpow (hm.add (m2.mul hc1)) (by decide))))) (ev_op (ev_op ev_c ev_c (rv_I c62)) ev_c rv_I0) (rv_I p62)) fun H4 e4 => ?_
      have cd : CDivX (((mixed + 32452843 * (c + 1)) ^ (3 : Int).toNat).fmod (10 ^ (62 : Int).toNat + 31)) 1048576 := cdivB (n := 30) (by decide) (by unfold Bd; decide) (by decide)
      refine s_ret (ev_op (ev_intI (ev_op (ev_var rfl) ev_c (rv_I cd))) (ev_var rfl) (rv_I hn0)) fun H5 e5 => k _ _ (Int.fmod_nonneg_of_pos _ hn) (Int.fmod_lt_of_pos _ hn) ⟨a, b, c + 1, e5 _ _ (e4 _ _ h3), hb, by omega, by omega⟩ ?_
      exact (((((Ex.q e1).trans (Ex.q e2)).trans ExQ.upd).trans (Ex.q e3)).trans (Ex.q e4)).trans (Ex.q e5)⟩)
/-! ### _law_pool -/
def spPool (K : PySem.W.Frag) : Sp := fun vs H Q _ => ∃ (a : Addr) (ns : List Int) (n : Nat), vs = [.ref a, .int (n : Int)] ∧ SqL K H a (ns.map V.int) ∧ n ≤ 10 ∧ ∀ p H', H p = none → Ex H H' → Pool H' p 10000 → Q (.ref p) H'
theorem sc_law_pool : FnScope ["_law_script", "_law_at", "_law_cell"] ["_law_script", "_law_at"] (defScope s_law_pool) := ⟨rfl, rfl, rfl, by decide +kernel, rfl, by decide +kernel, by decide +kernel⟩
theorem ok_law_pool (F : FnP K "_law_pool" s_law_pool f fd) (N : Nm mg) : FnOk P w K mg base CX0 1 f fd ["_law_script", "_law_at"] (spPool K) :=
  F.ok sc_law_pool (fun _ _ _ _ ⟨_, _, _, h, _⟩ => by rw [h]; rfl) (fun cdv A outer s H vs Q E hr h => ⟨_, PSs.nox (pss_cons (ps_set (i := 2) sc_law_pool.nd rfl (Or.inl rfl) (pe_ifExp (pt_cmpR op_lt (pv 1) (pe_callB call_len_seq (by rfl) N.len (by decide +kernel) (pa_cons (pv 0) pa_nil)) (nomark _)) (pe_ix ix_seq (pv 0) (pv 1) (fun _ _ => rfl)) pe_int)) (pss_one (ps_ret (pe_lst (pa_cons (pe_callB (call_max2 rfl) (by rfl) N.max (by decide +kernel) (pa_cons pe_int (pa_cons (pe_op op_sub (pe_callB call_abs (by rfl) N.abs (by decide +kernel) (pa_cons (pv 2) pa_nil)) (pe_op op_powW pe_int pe_int)) pa_nil))) (pa_cons (pe_op op_add (pe_op op_modN (pe_callTy call_int1 (by rfl) N.int (by decide +kernel) (pa_cons (pv 2) pa_nil)) (pe_op op_add (pe_op op_powW pe_int pe_int) pe_int)) (pe_op op_mulW pe_int (pe_op op_add (pv 1) pe_int))) (pa_cons pe_int pa_nil))))))), by
    obtain ⟨a, ns, n, rfl, hl, hn, k⟩ := h
    refine q_asg (v := .int (ns.getD n 0)) (ev_if (et_test (ev_op (ev_var rfl) (ev_len (ev_var rfl) hl) rv_I0)) (fun hlt => ?_) (fun hlt => ?_)) fun H1 e1 => ?_
    · have hlt : (n : Int) < ((ns.map V.int).length : Nat) := of_decide_eq_true hlt
      rw [List.length_map] at hlt
      have h2 : (ns.map V.int)[n]? = some (.int (ns.getD n 0)) := by
        rw [List.getElem?_map, List.getD_eq_getElem?_getD, List.getElem?_eq_getElem (by omega : n < ns.length)]
        rfl
      exact ev_op (ev_var rfl) (ev_var rfl) fun H1 e Q q => Or.inl (rv_ixL (ex_l e hl) (atI_nat h2) H1 (Ex.refl H1) Q q)
    · have hlt : ¬ (n : Int) < ((ns.map V.int).length : Nat) := of_decide_eq_false hlt
      rw [List.length_map] at hlt
      have h2 : ns.getD n 0 = 0 := by
        rw [List.getD_eq_getElem?_getD, List.getElem?_eq_none (by omega)]
        rfl
      rw [h2]
      exact ev_c
    have p36 : ((10 : Int) ^ (36 : Int).toNat + 9) ≠ 0 := by decide +kernel
    have p36p : 0 < ((10 : Int) ^ (36 : Int).toNat + 9) := by decide +kernel
    have b36 : Bd 150 ((10 : Int) ^ (36 : Int).toNat + 9) := by unfold Bd; decide +kernel
    have c36 : CPowW 10 36 := by unfold CPowW; decide +kernel
    have c18 : CPowW 10 18 := by unfold CPowW; decide +kernel
    have m1 : Bd 30 (7368787 : Int) := by unfold Bd; decide
    have hn1 : Bd 10 ((n : Int) + 1) := by
      unfold Bd
      have : ((n : Int) + 1).natAbs ≤ 11 := by omega
      exact Nat.lt_of_le_of_lt this (by decide)
    refine s_retL (el_lst (ea3 (ev_max2' ev_c (ev_op (ev_cb (ea1 (ev_var rfl)) rc_abs) (ev_op ev_c ev_c (rv_I c18)) rv_I0)) (ev_op (ev_op (ev_intI (ev_var rfl)) (ev_op (ev_op ev_c ev_c (rv_I c36)) ev_c rv_I0) (rv_I p36)) (ev_op ev_c (ev_op (ev_var rfl) ev_c rv_I0) (rv_I (cmulB m1 hn1 (by decide)))) rv_I0) ev_c) (by simp)) fun p H2 hp e2 h2 => k p H2 (fresh_back e1 hp) (e1.trans e2) ⟨_, _, 0, h2, ?_, by decide, by decide⟩
    have x1 := Int.fmod_nonneg_of_pos (ns.getD n 0) p36p
    have x2 := Int.fmod_lt_of_pos (ns.getD n 0) p36p
    exact ((b36.nn x1 (by omega)).add (m1.mul hn1)).mono (by decide)⟩)
end
end GF
set_option Elab.async false
set_option linter.all false
/-! The chain of corners in plain Lean; a stack stands with its top first. -/
namespace GF
def pops : List P2 → P2 → List P2
  | b :: a :: r, p => if turnM a b p ≤ 0 then pops (a :: r) p else b :: a :: r
  | [b], _ => [b]
  | [], _ => []
def pushM (st : List P2) (p : P2) : List P2 := p :: pops st p
def chainM (line : List P2) : List P2 := line.foldl pushM []
def hullM (R : List P2) : List P2 := if R.length < 2 then R else (chainM R).reverse.dropLast ++ (chainM R.reverse).reverse.dropLast
theorem pops_sub : ∀ (st : List P2) (p : P2), ∀ x ∈ pops st p, x ∈ st
  | [], _, x, h => h
  | [b], _, x, h => h
  | b :: a :: r, p, x, h => by
    rw [pops] at h
    split at h
    · exact List.mem_cons_of_mem _ (pops_sub (a :: r) p x h)
    · exact h
theorem pops_len : ∀ (st : List P2) (p : P2), (pops st p).length ≤ st.length
  | [], _ => Nat.le_refl _
  | [b], _ => Nat.le_refl _
  | b :: a :: r, p => by
    rw [pops]
    split
    · have := pops_len (a :: r) p
      rw [List.length_cons]
      omega
    · exact Nat.le_refl _
theorem fold_sub : ∀ (line st : List P2), ∀ x ∈ line.foldl pushM st, x ∈ st ∨ x ∈ line
  | [], st, x, h => Or.inl h
  | p :: l, st, x, h => by
    rw [List.foldl_cons] at h
    rcases fold_sub l _ x h with h | h
    · rcases List.mem_cons.mp h with e | h
      · exact Or.inr (by rw [e]; exact List.mem_cons_self ..)
      · exact Or.inl (pops_sub _ _ _ h)
    · exact Or.inr (List.mem_cons_of_mem _ h)
theorem fold_len : ∀ (line st : List P2), (line.foldl pushM st).length ≤ st.length + line.length
  | [], st => Nat.le_refl _
  | p :: l, st => by
    rw [List.foldl_cons]
    have h1 := fold_len l (pushM st p)
    have h2 := pops_len st p
    rw [pushM, List.length_cons] at h1
    rw [List.length_cons]
    simp only [pushM]
    omega
end GF
set_option Elab.async false
set_option linter.all false
set_option maxRecDepth 100000
set_option maxHeartbeats 4000000
set_option exponentiation.threshold 100000
namespace GF
open PySem PySem.Spec PyProof.Rows L2 Evl
theorem All2.rev {α : Type} {S : V → α → Prop} {vs : List V} {xs : List α} (h : All2 S vs xs) : All2 S vs.reverse xs.reverse := ⟨by rw [List.length_reverse, List.length_reverse, h.1], fun i v x e1 e2 => by
  have hi : i < vs.length := by
    have := (List.getElem?_eq_some_iff.mp e1).1
    rwa [List.length_reverse] at this
  rw [List.getElem?_reverse hi] at e1
  rw [List.getElem?_reverse (by rw [← h.1]; exact hi), ← h.1] at e2
  exact h.2 _ v x e1 e2⟩
/-- for x in a tuple made on the way, known by what stands in it -/
theorem q_forRT {K : PySem.W.Frag} {D : Ends} {σ : L2.St} {H : Hp} {g : TG} {tu tz : TS} {n : Nat} {S : Hp → List V → Prop} {tl : TE} (h : ER tl σ H (fun H' v => ∃ a xs, v = .ref a ∧ H' a = some (.tup xs) ∧ xs.length = n ∧ S H' xs)) (Pv : Addr → List V → Nat → L2.St → Hp → Prop) (h0 : ∀ a xs H1, Ex H H1 → H1 a = some (.tup xs) → xs.length = n → S H1 xs → Pv a xs 0 σ H1) (hl : ∀ a xs i σ' H', Pv a xs i σ' H' → SqT K H' a xs)
    (hs : ∀ a xs i x σ' H', xs.length = n → xs[i]? = some x → Pv a xs i σ' H' → g x σ' H' fun σ2 H2 => tu { D with nx := Pv a xs (i + 1), ct := Pv a xs (i + 1), bk := tz D } σ2 H2) (hd : ∀ a xs σ' H', Pv a xs n σ' H' → tz D σ' H') : tSeq (tFor (iTup K tl) g tu) tz D σ H :=
  h H (Ex.refl H) _ fun v H1 e ⟨a, xs, ev, h1, hn, hS⟩ => ⟨a, ev, ⟨xs, st_of h1⟩, for_tup (D := { D with nx := tz D }) (Pv a xs) (h0 a xs H1 e h1 hn hS) (fun i σ' H' _ p => hl a xs i σ' H' p) (fun i x σ' H' hx p => hs a xs i x σ' H' hn hx p) (fun σ' H' p => hd a xs σ' H' (by rw [hn] at p; exact p))⟩
theorem er_rev {α : Type} {K : PySem.W.Frag} {S : Hp → V → α → Prop} {te : TE} {σ : L2.St} {H : Hp} {v : V} {xs : List α} (mS : Mo2 S) (h : Ev te σ H v) (hl : LR S H v xs) : ER (tRevL K te) σ H (fun H' v => LR S H' v xs.reverse) := fun H1 e Q q => by
  obtain ⟨a, vs, rfl, h2, h3⟩ := hl
  exact h H1 e _ fun H2 e2 => ⟨a, vs, rfl, sq_of ((e.trans e2) _ _ h2), fun p hp => q _ _ (e2.trans (Ex.new hp)) ⟨p, _, rfl, upd_same, (h3.mono fun v x => mS _ _ v x ((e.trans e2).trans (Ex.new hp))).rev⟩⟩
theorem atI_m1 {xs : List V} {v : V} (h : xs.getLast? = some v) : atI xs (-1) = some v := by
  have hne : xs ≠ [] := fun e => by rw [e] at h; cases h
  have e := List.dropLast_concat_getLast hne
  rw [List.getLast?_eq_some_getLast hne] at h
  rw [← e, Option.some.inj h]
  exact atI_last _ _
theorem atI_m2 {xs : List V} {i : Nat} {v : V} (hl : xs.length = i + 2) (h : xs[i]? = some v) : atI xs (-2) = some v := by
  unfold atI ixN
  rw [if_neg (by decide), if_pos (by omega)]
  have e : ((-2 : Int) + (xs.length : Int)).toNat = i := by omega
  simp only [Option.bind_some]
  first
    | rw [e]; exact h
    | (have e2 : (xs.length : Int) + -2 = (i : Int) := by omega
       simp [e, e2, h])
theorem nodup_len {α : Type} : ∀ {xs ys : List α}, xs.Nodup → (∀ x ∈ xs, x ∈ ys) → xs.length ≤ ys.length
  | [], _, _, _ => Nat.zero_le _
  | x :: xs, ys, h, hs => by
    rw [List.nodup_cons] at h
    obtain ⟨a, b, rfl⟩ := List.append_of_mem (hs x (List.mem_cons_self ..))
    have := nodup_len (ys := a ++ b) h.2 fun y hy => by
      have h2 := hs y (List.mem_cons_of_mem _ hy)
      rcases List.mem_append.mp h2 with h2 | h2
      · exact List.mem_append_left _ h2
      · rcases List.mem_cons.mp h2 with e | h2
        · rw [e] at hy
          exact absurd hy h.1
        · exact List.mem_append_right _ h2
    rw [List.length_append] at this ⊢
    rw [List.length_cons, List.length_cons]
    omega
section
variable {P : Program} {w : World} {K : PySem.W.Frag} {mg : Str → Option Value} {base : Heap} {f : Addr} {fd : FuncData}
/-- a new object -/
def EN (te : TE) (σ : L2.St) (H : Hp) (R : Hp → V → Prop) : Prop := ∀ H1, Ex H H1 → ∀ Q : VK, (∀ p H2, H1 p = none → Ex H1 H2 → R H2 (.ref p) → Q (.ref p) H2) → te σ H1 Q
theorem en_cat {α : Type} {S : Hp → V → α → Prop} {ta tb : TE} {σ : L2.St} {H : Hp} {xs ys : List α} (mS : Mo2 S) (ha : ER ta σ H (fun H' v => LR S H' v xs)) (hb : ER tb σ H (fun H' v => LR S H' v ys)) (hz : xs.length + ys.length ≤ 100000) : EN (tOp rCat ta tb) σ H (fun H' v => LR S H' v (xs ++ ys)) := fun H1 e Q q =>
  ha H1 e _ fun x H2 e2 rx => hb H2 (e.trans e2) _ fun y H3 e3 ⟨b, us, e4, e5, e6⟩ => by
    obtain ⟨a, vs, e1', e2', e3'⟩ := mo_lr mS _ _ _ _ e3 rx
    exact ⟨a, b, vs, us, e1', e4, e2', e5, sz_of (by rw [e3'.1, e6.1]; exact hz), fun p hp => q p _ (fresh_back (e2.trans e3) hp) ((e2.trans e3).trans (Ex.new hp)) ⟨p, _, rfl, upd_same, (e3'.mono fun v x => mS _ _ v x (Ex.new hp)).app (e6.mono fun v x => mS _ _ v x (Ex.new hp))⟩⟩
theorem s_asgN {te : TE} {σ : L2.St} {H : Hp} {R : Hp → V → Prop} {D : Ends} {i : Nat} (h : EN te σ H R) (k : ∀ p H1, H p = none → Ex H H1 → R H1 (.ref p) → D.nx (σ.set i (some (.ref p))) H1) : tAsg te (gName i) D σ H := h H (Ex.refl H) _ k
theorem s_pop {ta : TE} {σ : L2.St} {H : Hp} {D : Ends} {l : Addr} {xs : List V} (hl : H l = some (.lst xs)) (ha : Ev ta σ H (.ref l)) (hne : xs ≠ []) (k : ∀ H1, Ex H H1 → D.nx σ (upd H1 l (.lst xs.dropLast))) : tDrop (tBM0 K "list" rPop ta) D σ H := ha H (Ex.refl H) _ fun H1 e1 =>
  ⟨Or.inl ⟨rfl, xs, sq_of (e1 _ _ hl)⟩, l, xs, xs.getLast hne, rfl, rfl, e1 _ _ hl, by rw [← List.getLast?_eq_getElem?]; exact List.getLast?_eq_some_getLast hne, k H1 e1⟩
theorem keys_of {H : Hp} : ∀ {vs : List V} {ps : List Pt}, All2 (T2 H) vs ps → ∃ ks : List (Addr × List Int), vs = (ks.map fun p => V.ref p.1) ∧ ks.map (fun p => p.2) = (ps.map fun p => [p.1, p.2]) ∧ ∀ p ∈ ks, H p.1 = some (.tup (p.2.map V.int))
  | vs, [], h => ⟨[], All2.nil_inv h, rfl, fun p hp => by cases hp⟩
  | vs, p :: ps, h => by
    obtain ⟨v, ws, rfl, ⟨a, rfl, h1⟩, h2⟩ := h.uncons
    obtain ⟨ks, rfl, h4, h5⟩ := keys_of h2
    refine ⟨(a, [p.1, p.2]) :: ks, rfl, by rw [List.map_cons, List.map_cons, h4], fun r hr => ?_⟩
    rcases List.mem_cons.mp hr with rfl | hr
    · exact h1
    · exact h5 r hr
def spCorn : Sp := fun vs H Q _ => ∃ v spots, vs = [v] ∧ LR T2 H v spots ∧ 1 ≤ spots.length ∧ spots.length ≤ 60 ∧ (∀ p ∈ spots, BdP 100 p) ∧ ∀ R p H', R.Pairwise ptlt → (∀ x ∈ R, x ∈ spots) → R ≠ [] → H p = none → Ex H H' → LR T2 H' (.ref p) (hullM R) → Q (.ref p) H'
def lineM (R : List P2) (i : Nat) : List P2 := if i = 0 then R else R.reverse
def partM (R : List P2) : Nat → List P2
  | 0 => []
  | i + 1 => partM R i ++ (chainM (lineM R i)).reverse.dropLast
theorem sc_law_corners : FnScope ["_law_spots", "_law_rows", "_law_found", "_law_line", "_law_half", "_law_spot"] ["_law_spots"] (defScope s_law_corners) := ⟨rfl, rfl, rfl, by decide +kernel, rfl, by decide +kernel, by decide +kernel⟩
theorem ok_law_corners (F : FnP K "_law_corners" s_law_corners f fd) (N : Nm mg) {fI : Addr} {fdI : FuncData} (u_law_turn : Use P w K mg base "_law_turn" 1 ["_law_one", "_law_two", "_law_three"] spTurn fI fdI) : FnOk P w K mg base CX0 2 f fd ["_law_spots"] spCorn :=
  F.ok sc_law_corners (fun _ _ _ _ ⟨_, _, h, _⟩ => by rw [h]; rfl) (fun cdv A outer s H vs Q E hr h => ⟨_, PSs.nox (pss_cons (ps_set (i := 1) sc_law_corners.nd rfl (Or.inl rfl) (pe_callB (cr_sortedSP rfl) (by rfl) N.sorted (by decide +kernel) (pa_cons (pe_callTy (cr_setOfT rfl hr.units) (by rfl) N.set (by decide +kernel) (pa_cons (pv 0) pa_nil)) pa_nil))) (pss_cons (ps_if (pt_cmpR op_lt (pe_callB call_len_seq (by rfl) N.len (by decide +kernel) (pa_cons (pv 1) pa_nil)) pe_int (nomark _)) (pss_one (ps_ret (pv 1))) pss_nil) (pss_cons (ps_set (i := 2) sc_law_corners.nd rfl (Or.inl rfl) (pe_lst pa_nil)) (pss_cons (ps_for PassesOwn.never rfl (pi_tup (pe_tup (pa_cons (pv 1) (pa_cons (pe_revL (pv 1)) pa_nil)))) (pg_name (i := 3) sc_law_corners.nd rfl (Or.inl rfl)) (pss_cons (ps_set (i := 4) sc_law_corners.nd rfl (Or.inl rfl) (pe_lst pa_nil)) (pss_cons (ps_for PassesOwn.never rfl (pi_list (pv 3)) (pg_name (i := 5) sc_law_corners.nd rfl (Or.inl rfl)) (pss_cons (ps_while PassesOwn.never (PW.pt (pw_and (pt_cmpR op_gt (pe_callB call_len_seq (by rfl) N.len (by decide +kernel) (pa_cons (pv 4) pa_nil)) pe_int (nomark _)) (pw_and1 (pt_cmpR op_le (pe_call u_law_turn.ok (hr.mono (by decide)) rfl u_law_turn.g u_law_turn.kp u_law_turn.b .nil pass0 (pa_cons (pe_ix ix_seq (pv 4) (pe_un un_neg pe_int) (fun _ _ => rfl)) (pa_cons (pe_ix ix_seq (pv 4) (pe_un un_neg pe_int) (fun _ _ => rfl)) (pa_cons (pv 5) pa_nil)))) pe_int (nomark _))))) (pss_one (ps_expr (pe_bm0 PySem.F.plainAttrs_list PySem.F.slot_list_pop PySem.F.type_list_pop mt_pop (pv 4))))) (pss_one (ps_expr (pe_bm PySem.F.plainAttrs_list PySem.F.slot_list_append PySem.F.type_list_append mt_append (pv 4) (pa_cons (pv 5) pa_nil)))))) (pss_one (ps_set (i := 2) sc_law_corners.nd rfl (Or.inl rfl) (pe_op op_cat (pv 2) (pe_slice sl_list (pv 4) po_none (po_some (pe_un un_neg pe_int))))))))) (pss_one (ps_ret (pv 2))))))), by
    obtain ⟨v, spots, rfl, hl, h1, h60, hbd, k⟩ := h
    obtain ⟨a, vs, rfl, l2, l3⟩ := hl
    obtain ⟨ks, rfl, k2, k3⟩ := keys_of l3
    have hks : ∀ p ∈ ks, ∃ r ∈ spots, p.2 = [r.1, r.2] := fun p hp => by
      have : p.2 ∈ ks.map (fun p => p.2) := List.mem_map.mpr ⟨p, hp, rfl⟩
      rw [k2] at this
      obtain ⟨r, hr, e⟩ := List.mem_map.mp this
      exact ⟨r, hr, e.symm⟩
    refine ⟨_, rfl, a, ks, rfl, sq_of l2, fun p hp => st_of (k3 p hp), ?_, fun sa L hsa hL1 hL2 => ?_⟩
    · have := congrArg List.length k2
      rw [List.length_map, List.length_map] at this
      omega
    have es : Ex H (upd H sa (SetTO P w sa L)) := Ex.new hsa
    refine ⟨sa, L, rfl, upd_same, fun p hp => st_of (es _ _ (k3 p (hL1 p hp))), fun p hp => ?_, fun L' pr hperm hnd hpw hpr => ?_⟩
    · obtain ⟨r, _, e⟩ := hks p (hL1 p hp)
      exact ⟨r.1, r.2, e⟩
    have hL' : ∀ p ∈ L', ∃ r ∈ spots, p.2 = [r.1, r.2] ∧ H p.1 = some (.tup (p.2.map V.int)) := fun p hp => by
      have h := hL1 p (hperm.mem_iff.mp hp)
      obtain ⟨r, hr, e⟩ := hks p h
      exact ⟨r, hr, e, k3 p h⟩
    let R : List P2 := L'.map fun q => two q.2
    have hR : R = L'.map fun q => two q.2 := rfl
    clear_value R
    have R1 : R.Pairwise ptlt := by
      rw [hR, List.pairwise_map]
      have hnd2 : L'.Pairwise (fun a b => a.2 ≠ b.2) := List.pairwise_map.mp hnd
      refine List.Pairwise.imp_of_mem (fun {p q} hp hq h => ?_) (hpw.and hnd2)
      obtain ⟨r1, _, e1, _⟩ := hL' p hp
      obtain ⟨r2, _, e2, _⟩ := hL' q hq
      have h1 := h.1
      have h2 := h.2
      rw [e1, e2] at h1 h2 ⊢
      have h3 : ¬ (two [r2.1, r2.2]).1 < (two [r1.1, r1.2]).1 ∧ ¬ ((two [r2.1, r2.2]).1 = (two [r1.1, r1.2]).1 ∧ (two [r2.1, r2.2]).2 < (two [r1.1, r1.2]).2) := by
        have h4 : ¬ SrtO.lexB (two [r2.1, r2.2]) (two [r1.1, r1.2]) = true := by rw [h1]; decide
        rw [SrtO.lexB_iff] at h4
        exact ⟨fun z => h4 (Or.inl z), fun z => h4 (Or.inr z)⟩
      have t1 : two [r1.1, r1.2] = (r1.1, r1.2) := rfl
      have t2 : two [r2.1, r2.2] = (r2.1, r2.2) := rfl
      rw [t1, t2] at h3 ⊢
      have h5 : ¬ (r1.1 = r2.1 ∧ r1.2 = r2.2) := fun z => h2 (by rw [z.1, z.2])
      unfold ptlt
      simp only at h3 ⊢
      omega
    have R2 : ∀ x ∈ R, x ∈ spots := fun x hx => by
      rw [hR] at hx
      obtain ⟨p, hp, rfl⟩ := List.mem_map.mp hx
      obtain ⟨r, hr, e, _⟩ := hL' p hp
      rw [e]
      exact hr
    have R3 : R ≠ [] := fun e => by
      rw [hR] at e
      have e1 : L' = [] := List.map_eq_nil_iff.mp e
      rw [e1] at hperm
      have e2 : L = [] := hperm.symm.eq_nil
      cases hsp : ks with
      | nil =>
        rw [hsp] at k2
        have := congrArg List.length k2
        simp at this
        omega
      | cons p r =>
        have := hL2 p (by rw [hsp]; exact List.mem_cons_self ..)
        rw [e2] at this
        cases this
    have Rl : R.length ≤ 60 := Nat.le_trans (nodup_len (ys := spots) (R1.imp fun {x y} h z => by rw [z] at h; unfold ptlt at h; omega) R2) h60
    have hRb : ∀ x ∈ R, BdP 100 x := fun x hx => hbd x (R2 x hx)
    have e1 : Ex H (upd (upd H sa (SetTO P w sa L)) pr (.lst (L'.map fun q => V.ref q.1))) := es.trans (Ex.new hpr)
    have hrows : LR T2 (upd (upd H sa (SetTO P w sa L)) pr (.lst (L'.map fun q => V.ref q.1))) (.ref pr) R := by
      refine ⟨pr, _, rfl, upd_same, by rw [hR, List.length_map, List.length_map], fun i u x h1 h2 => ?_⟩
      rw [hR, List.getElem?_map] at h2
      rw [List.getElem?_map] at h1
      cases hq : L'[i]? with
      | none =>
        rw [hq] at h1
        cases h1
      | some q =>
        rw [hq] at h1 h2
        cases h1
        cases h2
        obtain ⟨r, _, e, ht⟩ := hL' q (List.mem_of_getElem? hq)
        rw [e] at ht
        show T2 _ (.ref q.1) (two q.2)
        rw [e]
        exact ⟨q.1, rfl, e1 _ _ ht⟩
    have hpr0 : H pr = none := fresh_back es hpr
    dsimp only [gName]
    generalize hH1 : upd (upd H sa _) pr _ = H1
    have e1 : Ex H H1 := by rw [← hH1]; exact e1
    have hrows : LR T2 H1 (.ref pr) R := by rw [← hH1]; exact hrows
    clear hH1
    refine q_when (et_test (ev_op (ev_lenL (ev_var rfl) hrows) ev_c rv_I0)) (fun hlt H2 e2 => ?_) (fun hlt H2 e2 => ?_)
    · have hlt : (R.length : Int) < 2 := of_decide_eq_true hlt
      refine s_ret (ev_var rfl) fun H3 e3 => k R pr H3 R1 R2 R3 hpr0 ((e1.trans e2).trans e3) ?_
      rw [hullM, if_pos (by omega)]
      exact mo_lr mo_t2 _ _ _ _ (e2.trans e3) hrows
    have hlt : ¬ (R.length : Int) < 2 := of_decide_eq_false hlt
    refine q_asgL (el_lst ea_nil (by simp)) fun pf H3 hpf e3 h3 => ?_
    have e03 := (e1.trans e2).trans e3
    have hrows3 := mo_lr mo_t2 _ _ _ _ (e2.trans e3) hrows
    have hf3 : LR T2 H3 (.ref pf) (partM R 0) := ⟨pf, [], rfl, h3, All2.nil⟩
    have hpf0 : H pf = none := fresh_back (e1.trans e2) hpf
    refine q_forRT (n := 2) (S := fun H' xs => ∃ xr, xs = [.ref pr, xr] ∧ LR T2 H' xr R.reverse) (fun H4 e4 Q4 q4 => ?_) (fun ta xs i σ' H' => H' ta = some (.tup xs) ∧ Ex H3 H' ∧ (∀ j u, xs[j]? = some u → LR T2 H' u (lineM R j)) ∧ ∃ (pf : Addr) (x3 x4 x5 : Option V), σ' = [some (.ref a), some (.ref pr), some (.ref pf), x3, x4, x5] ∧ H pf = none ∧ LR T2 H' (.ref pf) (partM R i)) ?_ (fun ta xs i σ' H' p => st_of p.1) ?_ ?_
    · refine ⟨_, rfl, er_rev mo_t2 (ev_var rfl) (mo_lr mo_t2 _ _ _ _ e4 hrows3) H4 (Ex.refl H4) _ fun xr H5 e5 hxr => ⟨by show 2 ≤ sizeLine; decide, fun ta hta => q4 _ _ (e5.trans (Ex.new hta)) ⟨ta, _, rfl, upd_same, rfl, xr, rfl, mo_lr mo_t2 _ _ _ _ (Ex.new hta) hxr⟩⟩⟩
    · rintro ta xs H4 e4 hta hxl ⟨xr, rfl, hxr⟩
      refine ⟨hta, e4, fun j u hj => ?_, pf, _, _, _, rfl, hpf0, mo_lr mo_t2 _ _ _ _ e4 hf3⟩
      match j, hj with
      | 0, hj =>
        cases hj
        exact mo_lr mo_t2 _ _ _ _ e4 hrows3
      | 1, hj =>
        cases hj
        exact hxr
    · rintro ta xs i lv σ' H4 hxl hlv ⟨hta, e4, hlines, pf, x3, x4, x5, rfl, hpf0, hpart⟩
      have hi2 : i < 2 := by
        have := (List.getElem?_eq_some_iff.mp hlv).1
        omega
      have hline := hlines i lv hlv
      have hLb : ∀ x ∈ lineM R i, BdP 100 x := fun x hx => by
        unfold lineM at hx
        split at hx
        · exact hRb x hx
        · exact hRb x (List.mem_reverse.mp hx)
      have hLl : (lineM R i).length ≤ 60 := by
        unfold lineM
        split
        · exact Rl
        · rw [List.length_reverse]
          exact Rl
      generalize hLdef : lineM R i = L at hline hLb hLl
      refine q_asgL (el_lst ea_nil (by simp)) fun Dh H5 hDh e5 h5 => ?_
      have hline5 := mo_lr mo_t2 _ _ _ _ e5 hline
      obtain ⟨al, ls, rfl, la, lb⟩ := hline
      refine q_forLn (ev_var rfl) (sq_of (e5 _ _ la)) (fun j σ' H' => Ex H4 H' ∧ ∃ (x5 : Option V) (vs : List V), σ' = [some (.ref a), some (.ref pr), some (.ref pf), some (.ref al), some (.ref Dh), x5] ∧ H' Dh = some (.lst vs) ∧ All2 (T2 H') vs ((L.take j).foldl pushM []).reverse) (fun H6 e6 => ⟨e5.trans e6, x5, [], rfl, e6 _ _ h5, All2.nil⟩) (fun j σ' H' _ p => sq_of (p.1 _ _ la)) ?_ ?_
      · rintro j u σ' H6 hu ⟨e6, x5, vs, rfl, hvs, hA⟩
        obtain ⟨p, hp, tp⟩ := lb.atV hu
        have hpm := List.mem_of_getElem? hp
        have htk : (L.take (j + 1)).foldl pushM [] = pushM ((L.take j).foldl pushM []) p := by
          rw [List.take_succ, hp, List.foldl_append]
          rfl
        generalize hst0 : (L.take j).foldl pushM [] = st0 at hA htk
        have hst0b : ∀ x ∈ st0, BdP 100 x := fun x hx => by
          rw [← hst0] at hx
          rcases fold_sub _ _ _ hx with h | h
          · cases h
          · exact hLb x (List.mem_of_mem_take h)
        have hst0l : st0.length ≤ 60 := by
          rw [← hst0]
          have := fold_len (L.take j) []
          rw [List.length_nil, List.length_take] at this
          omega
        clear hst0
        refine q_while (fun m σ' H' => Ex H4 H' ∧ ∃ (st : List P2) (vs : List V), σ' = [some (.ref a), some (.ref pr), some (.ref pf), some (.ref al), some (.ref Dh), some u] ∧ H' Dh = some (.lst vs) ∧ All2 (T2 H') vs st.reverse ∧ st.length = m ∧ m ≤ 60 ∧ (∀ x ∈ st, BdP 100 x) ∧ pops st p = pops st0 p) st0.length ⟨e6, st0, vs, rfl, hvs, hA, rfl, hst0l, hst0b, rfl⟩ ?_
        rintro m σ' H7 ⟨e7, st, vs, rfl, hvs, hA, hm, hm60, hstb, hpops⟩
        have hlv : vs.length = st.length := by rw [hA.1, List.length_reverse]
        have vlen : Ev (tOp (rI0 fun i j => .bl (decide (i > j))) (tCB (Evl.rLenS K) (tCons (tVar 4) tNil)) (tC (.int 1))) [some (.ref a), some (.ref pr), some (.ref pf), some (.ref al), some (.ref Dh), some u] H7 (.bl (decide ((st.length : Int) > 1))) := by
          rw [← hlv]
          exact ev_op (ev_cb (ea1 (ev_var rfl)) (rc_len (Or.inl hvs))) ev_c rv_I0
        have fin : ∀ D : Ends, (∀ σ' H', (Ex H4 H' ∧ ∃ (x5 : Option V) (vs : List V), σ' = [some (.ref a), some (.ref pr), some (.ref pf), some (.ref al), some (.ref Dh), x5] ∧ H' Dh = some (.lst vs) ∧ All2 (T2 H') vs ((L.take (j + 1)).foldl pushM []).reverse) → D.nx σ' H') → pops st p = st → ∀ H8, Ex H7 H8 → tDrop (tBM K "list" rAppend (tVar 4) (tCons (tVar 5) tNil)) D [some (.ref a), some (.ref pr), some (.ref pf), some (.ref al), some (.ref Dh), some u] H8 := fun D hD hpp H8 e8 => by
          refine s_app (e8 _ _ hvs) (ev_var rfl) (ev_var rfl) (by omega) fun H9 e9 => hD _ _ ⟨Ex.mut ((e7.trans e8).trans e9) hDh, _, vs ++ [u], rfl, upd_same, ?_⟩
          have hD9 : H9 Dh = some (.lst vs) := e9 _ _ (e8 _ _ hvs)
          rw [htk, pushM, ← hpops, hpp, List.reverse_cons]
          exact All2.app (hA.mono fun v x h => mt_t2 _ _ _ _ (TupUp.lst hD9) (mt_t2.mo _ _ _ _ (e8.trans e9) h)) (All2.one (mt_t2 _ _ _ _ (TupUp.lst hD9) (mt_t2.mo _ _ _ _ ((e7.trans e8).trans e9) tp)))
        match st, hlv, vlen, hA, hm, hstb, hpops, fin with
        | [], hlv, vlen, hA, hm, hstb, hpops, fin =>
          refine ⟨false, et_is (et_and (b := true) (et_test vlen) (fun z => by simp at z)) rfl, (fun z => by cases z), fun _ H8 e8 => fin _ (fun _ _ h => h) rfl H8 e8⟩
        | [b1], hlv, vlen, hA, hm, hstb, hpops, fin =>
          refine ⟨false, et_is (et_and (b := true) (et_test vlen) (fun z => by simp at z)) rfl, (fun z => by cases z), fun _ H8 e8 => fin _ (fun _ _ h => h) rfl H8 e8⟩
        | b1 :: a1 :: r, hlv, vlen, hA, hm, hstb, hpops, fin =>
          have hb1 := hstb b1 (List.mem_cons_self ..)
          have ha1 := hstb a1 (List.mem_cons_of_mem _ (List.mem_cons_self ..))
          have hrl : r.length + 2 = m := by rw [← hm, List.length_cons, List.length_cons]
          have hvl : vs.length = r.length + 2 := by rw [hlv, List.length_cons, List.length_cons]
          have hrev : (b1 :: a1 :: r).reverse = r.reverse ++ [a1, b1] := by rw [List.reverse_cons, List.reverse_cons, List.append_assoc]; rfl
          rw [hrev] at hA
          obtain ⟨w2, hw2, tw2⟩ := hA.at (i := r.length) (x := a1) (by rw [List.getElem?_append_right (by rw [List.length_reverse]; exact Nat.le_refl _), List.length_reverse, Nat.sub_self]; rfl)
          obtain ⟨w1, hw1, tw1⟩ := hA.at (i := r.length + 1) (x := b1) (by rw [List.getElem?_append_right (by rw [List.length_reverse]; omega), List.length_reverse, Nat.add_sub_cancel_left]; rfl)
          have v1 : Ev (tOp (rIx K) (tVar 4) (tUn (rU fun i => .int (-i)) (tC (.int 1)))) [some (.ref a), some (.ref pr), some (.ref pf), some (.ref al), some (.ref Dh), some u] H7 w1 := ev_op (ev_var rfl) (ev_un ev_c ru_neg) (rv_ixl hvs (atI_m1 (by rw [List.getLast?_eq_getElem?, hvl]; exact hw1)))
          have v2 : Ev (tOp (rIx K) (tVar 4) (tUn (rU fun i => .int (-i)) (tC (.int 2)))) [some (.ref a), some (.ref pr), some (.ref pf), some (.ref al), some (.ref Dh), some u] H7 w2 := ev_op (ev_var rfl) (ev_un ev_c ru_neg) (rv_ixl hvs (atI_m2 hvl hw2))
          refine ⟨decide (turnM a1 b1 p ≤ 0), et_is (et_and (et_test vlen) fun _ => et_test (ev_op (ev_turn (n := 100) (by decide) v2 v1 (ev_var rfl) tw2 tw1 (mt_t2.mo _ _ _ _ e7 tp) ha1 hb1 (hLb p hpm)) ev_c rv_I0)) ?_, fun ht H8 e8 => ?_, fun ht H8 e8 => ?_⟩
          · rw [decide_eq_true (show ((b1 :: a1 :: r).length : Int) > 1 by rw [List.length_cons, List.length_cons]; omega), Bool.true_and]
          · have ht := of_decide_eq_true ht
            have hne : vs ≠ [] := fun z => by rw [z] at hvl; simp at hvl
            refine ⟨fun σ' H' => ∃ m', m' < m ∧ (Ex H4 H' ∧ ∃ (st : List P2) (vs : List V), σ' = [some (.ref a), some (.ref pr), some (.ref pf), some (.ref al), some (.ref Dh), some u] ∧ H' Dh = some (.lst vs) ∧ All2 (T2 H') vs st.reverse ∧ st.length = m' ∧ m' ≤ 60 ∧ (∀ x ∈ st, BdP 100 x) ∧ pops st p = pops st0 p), fun _ _ h => h, ?_⟩
            refine s_pop (e8 _ _ hvs) (ev_var rfl) hne fun H9 e9 => ⟨r.length + 1, by omega, Ex.mut ((e7.trans e8).trans e9) hDh, a1 :: r, vs.dropLast, rfl, upd_same, ?_, rfl, by omega, fun x hx => hstb x (List.mem_cons_of_mem _ hx), ?_⟩
            · have hD9 : H9 Dh = some (.lst vs) := e9 _ _ (e8 _ _ hvs)
              have hdl : (a1 :: r).reverse = (r.reverse ++ [a1, b1]).dropLast := by
                rw [List.reverse_cons, show r.reverse ++ [a1, b1] = (r.reverse ++ [a1]) ++ [b1] by rw [List.append_assoc]; rfl, List.dropLast_concat]
              rw [hdl]
              exact (hA.mono fun v x h => mt_t2 _ _ _ _ (TupUp.lst hD9) (mt_t2.mo _ _ _ _ (e8.trans e9) h)).dropLast
            · rw [← hpops, pops, if_pos ht]
          · have ht := of_decide_eq_false ht
            exact fin _ (fun _ _ h => h) (by rw [pops, if_neg ht]) H8 e8
      · rintro σ' H6 ⟨e6, x5, vs, rfl, hvs, hA⟩
        rw [List.take_of_length_le (by rw [lb.1]; exact Nat.le_refl _)] at hA
        have hcl : (chainM L).length ≤ 60 := by
          have := fold_len L []
          rw [List.length_nil] at this
          unfold chainM
          omega
        have hpl : (partM R i).length ≤ 1000 := by
          match i, hi2 with
          | 0, _ => exact Nat.zero_le _
          | 1, _ =>
            show ([] ++ (chainM (lineM R 0)).reverse.dropLast).length ≤ 1000
            rw [List.nil_append, List.length_dropLast, List.length_reverse]
            have := fold_len (lineM R 0) []
            have h3 : (lineM R 0).length ≤ 60 := Rl
            rw [List.length_nil] at this
            unfold chainM
            omega
        refine s_asgN (en_cat mo_t2 (er_var rfl ((mo_lr mo_t2).at _) (mo_lr mo_t2 _ _ _ _ e6 hpart)) (er_sl (lo := none) (hi := some (-1)) (ys := (chainM L).reverse.dropLast) (ev_var rfl) ⟨Dh, vs, rfl, hvs, hA⟩ mo_t2 eo_none (eo_some (ev_un ev_c ru_neg)) fun us hus => by rw [cut_last]; exact hus.dropLast) (by rw [List.length_dropLast, List.length_reverse]; omega)) fun pf2 H7 hpf2 e7 r7 => ⟨e7 _ _ (e6 _ _ hta), (e4.trans e6).trans e7, fun j u hj => mo_lr mo_t2 _ _ _ _ (e6.trans e7) (hlines j u hj), pf2, _, _, _, rfl, fresh_back ((e03.trans e4).trans e6) hpf2, ?_⟩
        show LR T2 H7 (.ref pf2) (partM R i ++ (chainM (lineM R i)).reverse.dropLast)
        rw [hLdef]
        exact r7
    · rintro ta xs σ' H4 ⟨hta, e4, hlines, pf, x3, x4, x5, rfl, hpf0, hpart⟩
      refine s_ret (ev_var rfl) fun H5 e5 => k R pf H5 R1 R2 R3 hpf0 ((e03.trans e4).trans e5) ?_
      rw [hullM, if_neg (by omega)]
      exact mo_lr mo_t2 _ _ _ _ e5 hpart⟩)
end
end GF
set_option Elab.async false
set_option linter.all false
set_option maxRecDepth 100000
set_option maxHeartbeats 4000000
set_option exponentiation.threshold 100000
/-! The calculus where the pool is drawn from: facts stand over the heap without the pool, c draws are made. -/
namespace GF
open PySem PySem.Spec PyProof.Rows L2 Evl
theorem hole_upd {q p : Addr} {H : Hp} {o : HO} (n : p ≠ q) : hole q (upd H p o) = upd (hole q H) p o := by
  funext a
  show (if a = q then none else upd H p o a) = upd (hole q H) p o a
  by_cases h : a = q
  · subst h
    rw [if_pos rfl, upd_ne n.symm]
    exact hole_off.symm
  · rw [if_neg h]
    by_cases h2 : a = p
    · subst h2
      rw [upd_same, upd_same]
    · rw [upd_ne h2, upd_ne h2]
      show H a = if a = q then none else H a
      rw [if_neg h]
theorem Pool.ne {H : Hp} {q p : Addr} {k : Nat} (h : Pool H q k) (hp : H p = none) : p ≠ q := fun z => by
  obtain ⟨a, b, c, h1, _⟩ := h
  rw [z, h1] at hp
  cases hp
theorem Pool.new {H : Hp} {q p : Addr} {k : Nat} {o : HO} (h : Pool H q k) (hp : H p = none) : Pool (upd H p o) q k := h.mono (Ex.new hp)
def EQ (q : Addr) (c : Nat) (te : TE) (σ : L2.St) (G : Hp) (R : Hp → V → Prop) : Prop := ∀ m H1, Ex G (hole q H1) → Pool H1 q (m + c) → ∀ Q : VK, (∀ v H2, ExQ q H1 H2 → Pool H2 q m → R (hole q H2) v → Q v H2) → te σ H1 Q
section
variable {K : PySem.W.Frag} {σ : L2.St} {q : Addr} {c c1 c2 c3 m : Nat} {G H : Hp} {ta tb tx te : TE} {R Ra Rb Rc : Hp → V → Prop} {v : V} {r : R2}
theorem eq_ev (h : Ev te σ G v) (hr : ∀ G', Ex G G' → R G' v) : EQ q 0 te σ G R := fun m H1 e p Q k =>
  h H1 (e.trans hole_sub) Q fun H2 e2 => k v H2 (Ex.q e2) (p.mono e2) (hr _ (e.trans (hole_ex (Ex.q e2))))
theorem eq_is (h : Ev te σ G v) : EQ q 0 te σ G (Is v) := eq_ev h fun _ _ => rfl
theorem eq_draw {ta : TA} {E : XK} {n : Int} (h : EvA ta σ G [.ref q, .int n]) (hn : 0 < n) (hb : Bd 8000 n) : EQ q 1 (tCall spDraw [] E ta) σ G (fun _ v => ∃ d : Int, v = .int d ∧ 0 ≤ d ∧ d < n) := fun m H1 e p Q k =>
  h H1 (e.trans hole_sub) _ fun H2 e2 => ⟨q, n, m, rfl, p.mono e2, hn, hb, fun d H' h0 h1 hp hx => k _ _ ((Ex.q e2).trans hx) hp ⟨d, rfl, h0, h1⟩⟩
theorem eq_op (ha : EQ q c1 ta σ G Ra) (ma : Mo Ra) (hb : EQ q c2 tb σ G Rb) (mR : Mo R) (hr : ∀ G' x y, Ex G G' → Ra G' x → Rb G' y → ∃ z, RV r x y G' z ∧ R G' z) : EQ q (c1 + c2) (tOp r ta tb) σ G R := fun m H1 e p Q k =>
  ha (m + c2) H1 e (by rw [Nat.add_assoc, Nat.add_comm c2 c1]; exact p) _ fun x H2 e2 p2 rx => hb m H2 (e.trans (hole_ex e2)) p2 _ fun y H3 e3 p3 ry => by
    obtain ⟨z, h1, h2⟩ := hr (hole q H3) x y (e.trans (hole_ex (e2.trans e3))) (ma _ _ _ (hole_ex e3) rx) ry
    exact h1 H3 hole_sub Q fun H4 e4 => k z H4 ((e2.trans e3).trans (Ex.q e4)) (p3.mono e4) (mR _ _ _ (hole_ex (Ex.q e4)) h2)
theorem EQ.imp {R' : Hp → V → Prop} (h : EQ q c te σ G R) (i : ∀ G' v, Ex G G' → R G' v → R' G' v) : EQ q c te σ G R' := fun m H1 e p Q k => h m H1 e p Q fun v H2 e2 p2 r => k v H2 e2 p2 (i _ _ (e.trans (hole_ex e2)) r)
theorem EQ.mono {G' : Hp} (h : EQ q c te σ G R) (e : Ex G G') : EQ q c te σ G' R := fun m H1 e1 p Q k => h m H1 (e.trans e1) p Q k
theorem eq_tup2 (ha : EQ q c1 ta σ G Ra) (ma : Mo Ra) (hb : EQ q c2 tb σ G Rb) (mb : Mo Rb) : EQ q (c1 + c2) (tTup (tCons ta (tCons tb tNil))) σ G (fun G' v => ∃ x y, TN G' v [x, y] ∧ Ra G' x ∧ Rb G' y) := fun m H1 e p Q k =>
  ha (m + c2) H1 e (by rw [Nat.add_assoc, Nat.add_comm c2 c1]; exact p) _ fun x H2 e2 p2 rx => hb m H2 (e.trans (hole_ex e2)) p2 _ fun y H3 e3 p3 ry => ⟨by show 2 ≤ sizeLine; decide, fun t ht => by
    have ex : Ex H3 (upd H3 t (.tup [x, y])) := Ex.new ht
    exact k _ _ ((e2.trans e3).trans (Ex.q ex)) (p3.mono ex) ⟨x, y, ⟨t, rfl, hole_at upd_same (p3.ne ht)⟩, ma _ _ _ (hole_ex (e3.trans (Ex.q ex))) rx, mb _ _ _ (hole_ex (Ex.q ex)) ry⟩⟩
theorem eq_lst3 (ha : EQ q c1 ta σ G Ra) (ma : Mo Ra) (hb : EQ q c2 tb σ G Rb) (mb : Mo Rb) (hx : EQ q c3 tx σ G Rc) (mx : Mo Rc) : EQ q (c1 + c2 + c3) (tLst (tCons ta (tCons tb (tCons tx tNil)))) σ G (fun G' v => ∃ a x y z, v = .ref a ∧ G' a = some (.lst [x, y, z]) ∧ Ra G' x ∧ Rb G' y ∧ Rc G' z) := fun m H1 e p Q k =>
  ha (m + c3 + c2) H1 e (by have e1 : m + c3 + c2 + c1 = m + (c1 + c2 + c3) := by omega
                            rw [e1]; exact p) _ fun x H2 e2 p2 rx => hb (m + c3) H2 (e.trans (hole_ex e2)) p2 _ fun y H3 e3 p3 ry => hx m H3 (e.trans (hole_ex (e2.trans e3))) p3 _ fun z H4 e4 p4 rz => ⟨by show 3 ≤ sizeLine; decide, fun t ht => by
    have ex : Ex H4 (upd H4 t (.lst [x, y, z])) := Ex.new ht
    exact k _ _ (((e2.trans e3).trans e4).trans (Ex.q ex)) (p4.mono ex) ⟨t, x, y, z, rfl, hole_at upd_same (p4.ne ht), ma _ _ _ (hole_ex ((e3.trans e4).trans (Ex.q ex))) rx, mb _ _ _ (hole_ex (e4.trans (Ex.q ex))) ry, mx _ _ _ (hole_ex (Ex.q ex)) rz⟩⟩
/-- a number drawn, and one more done with it -/
def DI (P : Int → Prop) (_ : Hp) (v : V) : Prop := ∃ d : Int, v = .int d ∧ P d
theorem mo_di {P : Int → Prop} : Mo (DI P) := fun _ _ _ _ h => h
theorem eq_int (h : Ev te σ G (.int d)) (hp : P d) : EQ q 0 te σ G (DI P) := eq_ev h fun _ _ => ⟨d, rfl, hp⟩
theorem eq_opI {P1 P2 P3 : Int → Prop} {g : Int → Int → Int} (ha : EQ q c1 ta σ G (DI P1)) (hb : EQ q c2 tb σ G (DI P2)) (hp : ∀ i j, P1 i → P2 j → P3 (g i j)) : EQ q (c1 + c2) (tOp (rI0 fun i j => .int (g i j)) ta tb) σ G (DI P3) :=
  eq_op ha mo_di hb mo_di fun G' x y e ⟨i, ex, h1⟩ ⟨j, ey, h2⟩ => by
    subst ex
    subst ey
    exact ⟨_, rv_I0, g i j, rfl, hp i j h1 h2⟩
theorem eq_opC {P1 P2 P3 : Int → Prop} {C : Int → Int → Prop} {g : Int → Int → Int} (ha : EQ q c1 ta σ G (DI P1)) (hb : EQ q c2 tb σ G (DI P2)) (hp : ∀ i j, P1 i → P2 j → C i j ∧ P3 (g i j)) : EQ q (c1 + c2) (tOp (rI C fun i j => .int (g i j)) ta tb) σ G (DI P3) :=
  eq_op ha mo_di hb mo_di fun G' x y e ⟨i, ex, h1⟩ ⟨j, ey, h2⟩ => by
    subst ex
    subst ey
    exact ⟨_, rv_I (hp i j h1 h2).1, g i j, rfl, (hp i j h1 h2).2⟩
/-- a new list of known values -/
theorem eq_lstV {ta : TA} {vs : List V} (h : EvA ta σ G vs) (hl : vs.length ≤ 100000) : EQ q 0 (tLst ta) σ G (fun G' v => ∃ a, v = .ref a ∧ G' a = some (.lst vs)) := fun m H1 e p Q k =>
  h H1 (e.trans hole_sub) _ fun H2 e2 => ⟨sz_of hl, fun t ht => k _ _ (Ex.q (e2.trans (Ex.new ht))) (p.mono (e2.trans (Ex.new ht))) ⟨t, rfl, hole_at upd_same ((p.mono e2).ne ht)⟩⟩
/-! statements -/
variable {tz tu tw : TS} {D : Ends}
theorem sq_asg {i : Nat} (h : EQ q c te σ (hole q H) R) (p : Pool H q (m + c)) (k : ∀ v H1, ExQ q H H1 → Pool H1 q m → R (hole q H1) v → tz D (σ.set i (some v)) H1) : tSeq (tAsg te (gName i)) tz D σ H := h m H (Ex.refl _) p (fun v H1 => tz D (σ.set i (some v)) H1) k
theorem sl_asg {i : Nat} (h : EQ q c te σ (hole q H) R) (p : Pool H q (m + c)) (k : ∀ v H1, ExQ q H H1 → Pool H1 q m → R (hole q H1) v → D.nx (σ.set i (some v)) H1) : tAsg te (gName i) D σ H := h m H (Ex.refl _) p (fun v H1 => D.nx (σ.set i (some v)) H1) k
theorem sq_par {i j : Nat} (ha : EQ q c1 ta σ (hole q H) Ra) (ma : Mo Ra) (hb : EQ q c2 tb σ (hole q H) Rb) (p : Pool H q (m + (c1 + c2))) (k : ∀ x y H1, ExQ q H H1 → Pool H1 q m → Ra (hole q H1) x → Rb (hole q H1) y → tz D ((σ.set i (some x)).set j (some y)) H1) : tSeq (tPar i j (tCons ta (tCons tb tNil))) tz D σ H :=
  ha (m + c2) H (Ex.refl _) (by rw [Nat.add_assoc, Nat.add_comm c2 c1]; exact p) (fun x H1 => tCons tb tNil σ H1 fun ys H2 => ∃ v w, x :: ys = [v, w] ∧ tz D ((σ.set i (some v)).set j (some w)) H2) fun x H2 e2 p2 rx => hb m H2 (hole_ex e2) p2 _ fun y H3 e3 p3 ry => ⟨x, y, rfl, k x y H3 (e2.trans e3) p3 (ma _ _ _ (hole_ex e3) rx) ry⟩
theorem sq_par3 {i j l : Nat} (ha : EQ q c1 ta σ (hole q H) Ra) (ma : Mo Ra) (hb : EQ q c2 tb σ (hole q H) Rb) (mb : Mo Rb) (hx : EQ q c3 tx σ (hole q H) Rc) (p : Pool H q (m + (c1 + c2 + c3))) (k : ∀ x y z H1, ExQ q H H1 → Pool H1 q m → Ra (hole q H1) x → Rb (hole q H1) y → Rc (hole q H1) z → tz D (((σ.set i (some x)).set j (some y)).set l (some z)) H1) : tSeq (tPar3 i j l (tCons ta (tCons tb (tCons tx tNil)))) tz D σ H :=
  ha (m + c3 + c2) H (Ex.refl _) (by have e1 : m + c3 + c2 + c1 = m + (c1 + c2 + c3) := by omega
                                     rw [e1]; exact p) (fun x H1 => tCons tb (tCons tx tNil) σ H1 fun ys H2 => ∃ u v w, x :: ys = [u, v, w] ∧ tz D (((σ.set i (some u)).set j (some v)).set l (some w)) H2) fun x H2 e2 p2 rx => hb (m + c3) H2 (hole_ex e2) p2 _ fun y H3 e3 p3 ry => hx m H3 (hole_ex (e2.trans e3)) p3 _ fun z H4 e4 p4 rz =>
    ⟨x, y, z, rfl, k x y z H4 ((e2.trans e3).trans e4) p4 (ma _ _ _ (hole_ex (e3.trans e4)) rx) (mb _ _ _ (hole_ex e4) ry) rz⟩
/-- the same where a name is a cell: by way of a tuple -/
theorem sq_asgT {i j : Nat} (ha : EQ q c1 ta σ (hole q H) Ra) (ma : Mo Ra) (hb : EQ q c2 tb σ (hole q H) Rb) (mb : Mo Rb) (p : Pool H q (m + (c1 + c2))) (k : ∀ x y H1, ExQ q H H1 → Pool H1 q m → Ra (hole q H1) x → Rb (hole q H1) y → tz D ((σ.set i (some x)).set j (some y)) H1) : tSeq (tAsg (tTup (tCons ta (tCons tb tNil))) (gTup K 2 (gCons (gName i) (gCons (gName j) gNil)))) tz D σ H :=
  eq_tup2 ha ma hb mb m H (Ex.refl _) p (fun v H1 => gTup K 2 (gCons (gName i) (gCons (gName j) gNil)) v σ H1 (tz D)) fun v H1 e1 p1 ⟨x, y, ⟨a, h1, h2⟩, rx, ry⟩ => ⟨a, [x, y], h1, st_of (hole_sub _ _ h2), rfl, x, [y], rfl, y, [], rfl, rfl, k x y H1 e1 p1 rx ry⟩
theorem sq_ret (h : EQ q c te σ (hole q H) R) (p : Pool H q (m + c)) (k : ∀ v H1, ExQ q H H1 → Pool H1 q m → R (hole q H1) v → D.rt v H1) : tRet te D σ H := h m H (Ex.refl _) p _ k
/-- an empty list, new -/
theorem eq_nil {α : Type} {S : Hp → V → α → Prop} : EQ q 0 (tLst tNil) σ G (fun G' v => LR S G' v []) := fun m H1 e p Q k => ⟨by decide, fun t ht => k _ _ (Ex.q (Ex.new ht)) (p.mono (Ex.new ht)) ⟨t, [], rfl, hole_at upd_same (p.ne ht), All2.nil⟩⟩
theorem eq_nilF : EQ q 0 (tLst tNil) σ G (fun G' v => ∃ a, v = .ref a ∧ G a = none ∧ G' a = some (.lst [])) := fun m H1 e p Q k => ⟨by decide, fun t ht => k _ _ (Ex.q (Ex.new ht)) (p.mono (Ex.new ht)) ⟨t, rfl, fresh_back (e.trans hole_sub) ht, hole_at upd_same (p.ne ht)⟩⟩
theorem eq_tup3 (ha : EQ q c1 ta σ G Ra) (ma : Mo Ra) (hb : EQ q c2 tb σ G Rb) (mb : Mo Rb) (hx : EQ q c3 tx σ G Rc) (mx : Mo Rc) : EQ q (c1 + c2 + c3) (tTup (tCons ta (tCons tb (tCons tx tNil)))) σ G (fun G' v => ∃ a x y z, v = .ref a ∧ G' a = some (.tup [x, y, z]) ∧ Ra G' x ∧ Rb G' y ∧ Rc G' z) := fun m H1 e p Q k =>
  ha (m + c3 + c2) H1 e (by have e1 : m + c3 + c2 + c1 = m + (c1 + c2 + c3) := by omega
                            rw [e1]; exact p) _ fun x H2 e2 p2 rx => hb (m + c3) H2 (e.trans (hole_ex e2)) p2 _ fun y H3 e3 p3 ry => hx m H3 (e.trans (hole_ex (e2.trans e3))) p3 _ fun z H4 e4 p4 rz => ⟨by show 3 ≤ sizeLine; decide, fun t ht => by
    have ex : Ex H4 (upd H4 t (.tup [x, y, z])) := Ex.new ht
    exact k _ _ (((e2.trans e3).trans e4).trans (Ex.q ex)) (p4.mono ex) ⟨t, x, y, z, rfl, hole_at upd_same (p4.ne ht), ma _ _ _ (hole_ex ((e3.trans e4).trans (Ex.q ex))) rx, mb _ _ _ (hole_ex (e4.trans (Ex.q ex))) ry, mx _ _ _ (hole_ex (Ex.q ex)) rz⟩⟩
theorem eq_if {t : TT} {b : Bool} (h : EvT t σ G b) (h1 : b = true → EQ q c ta σ G R) (h2 : b = false → EQ q c tb σ G R) : EQ q c (tIf t ta tb) σ G R := fun m H1 e p Q k =>
  h H1 (e.trans hole_sub) _ fun H2 e2 => by
    have e12 := e.trans (hole_ex (Ex.q e2))
    cases b with
    | true =>
      show ta σ H2 Q
      exact h1 rfl m H2 e12 (p.mono e2) Q fun v H3 e3 p3 r3 => k v H3 ((Ex.q e2).trans e3) p3 r3
    | false =>
      show tb σ H2 Q
      exact h2 rfl m H2 e12 (p.mono e2) Q fun v H3 e3 p3 r3 => k v H3 ((Ex.q e2).trans e3) p3 r3
/-- draw(..) == 0 as a test -/
theorem tq_draw {ta : TA} {E : XK} {n : Int} (h : EvA ta σ G [.ref q, .int n]) (hn : 0 < n) (hb : Bd 8000 n) (m : Nat) (H1 : Hp) (e : Ex G (hole q H1)) (p : Pool H1 q (m + 1)) (Q : Bool → Hp → Prop) (k : ∀ b H2, ExQ q H1 H2 → Pool H2 q m → Q b H2) : tTest (tOp rEq (tCall spDraw [] E ta) (tC (.int 0))) σ H1 Q :=
  eq_draw h hn hb m H1 e p _ fun v H2 e2 p2 ⟨d, hv, _⟩ => by
    subst hv
    exact ⟨rfl, _, rfl, k _ H2 e2 p2⟩
theorem eq_rng {te : TE} {n : Nat} (h : Ev te σ G (.int (n : Int))) (hn : n ≤ 10000) : EQ q 0 (tLstRg (tRg1 te)) σ G (fun G' v => LR IsN G' v (List.range n)) := fun m H1 e p Q k =>
  h H1 (e.trans hole_sub) _ fun H2 e2 => ⟨n, rfl, RgOk.of_le (by omega) (by omega) (by omega) (by omega), fun t ht => k _ _ (Ex.q (e2.trans (Ex.new ht))) (p.mono (e2.trans (Ex.new ht))) ⟨t, _, rfl, hole_at upd_same ((p.mono e2).ne ht), by
    have e3 : rgV 0 (n : Int) = (List.range n).map fun i : Nat => V.int (i : Int) := by
      unfold rgV
      rw [Int.sub_zero, Int.toNat_natCast]
      refine List.map_congr_left fun i _ => ?_
      rw [Int.zero_add]
    rw [e3]
    refine ⟨by rw [List.length_map], fun i v x h1 h2 => ?_⟩
    rw [List.getElem?_map, h2] at h1
    cases h1
    rfl⟩⟩
theorem ExQ.mut {H' : Hp} {p : Addr} {o : HO} (e : ExQ q H H') (h : H p = none) : ExQ q H (L2.upd H' p o) := fun a u n ha => by
  rw [upd_ne (ne_of_none ha h)]
  exact e a u n ha
theorem s_appR {K : PySem.W.Frag} {D : Ends} {l : Addr} {xs : List V} (hl : H l = some (.lst xs)) (ha : Ev ta σ H (.ref l)) (h : ER te σ H R) (hz : xs.length < 100000) (k : ∀ v H1, Ex H H1 → R H1 v → D.nx σ (upd H1 l (.lst (xs ++ [v])))) : tDrop (tBM K "list" rAppend ta (tCons te tNil)) D σ H := ha H (Ex.refl H) _ fun H1 e1 =>
  ⟨Or.inl ⟨rfl, xs, sq_of (e1 l _ hl)⟩, h H1 e1 _ fun v H2 e2 r => ⟨l, xs, v, rfl, rfl, e2 l _ (e1 l _ hl), sz_lt hz, k v H2 (e1.trans e2) r⟩⟩
end
end GF
set_option Elab.async false
set_option linter.all false
/-! The ten corners of the law in plain Lean. -/
namespace GF
def tenL : List P2 := [(0, 0), (1, -2), (3, -3), (5, -3), (7, -2), (8, 0), (7, 2), (5, 3), (3, 3), (1, 2)]
def tenM (sc l d : Int) : List P2 := tenL.map fun p => (l + sc * p.1, d + sc * p.2)
end GF
set_option Elab.async false
set_option linter.all false
set_option maxRecDepth 100000
set_option maxHeartbeats 4000000
set_option exponentiation.threshold 100000
namespace GF
open PySem PySem.Spec PyProof.Rows L2 Evl
theorem fresh_q {q p : Addr} {H H' : Hp} {k m : Nat} (x : ExQ q H H') (pk : Pool H q k) (pm : Pool H' q m) (h : H' p = none) : H p = none := by
  cases e : H p with
  | none => rfl
  | some o =>
    by_cases z : p = q
    · obtain ⟨a, b, c, h1, _⟩ := pm
      rw [z, h1] at h
      cases h
    · rw [x p o z e] at h
      cases h
theorem lr_hole {α : Type} {S : Hp → V → α → Prop} {q p : Addr} {H : Hp} {k : Nat} {xs : List α} (mS : MoT S) (hn : p ≠ q) (pk : Pool H q k) (h : LR S H (.ref p) xs) : LR S (hole q H) (.ref p) xs := by
  obtain ⟨a, vs, e, h2, h3⟩ := h
  cases e
  exact ⟨p, vs, rfl, hole_at h2 hn, h3.mono fun v x => mS _ _ _ _ (hole_tup pk)⟩
/-- a comprehension's list is new -/
theorem en_lc {α β : Type} {K : PySem.W.Frag} {σ : L2.St} {H : Hp} {te tl : TE} {tt : TT} {g : TG} {S : Hp → V → α → Prop} {S' : Hp → V → β → Prop} {own : List Nat} {xs : List α} (keep : α → Bool) (out : α → β) (mS : Mo2 S) (mS' : MoT S') (h : ER tl σ H (fun H' v => LR S H' v xs)) (hz : xs.length ≤ 40000)
    (turn : ∀ x H1, x ∈ xs → Ex H H1 → Tn S S' g tt te (wipe σ own) own keep out x H1) : EN (tLc (iList K tl) g tt te own) σ H (fun H' v => LR S' H' v ((xs.filter keep).map out)) := fun H0 e Q q => h H0 e _ fun v H1 e1 ⟨a, vs, h1, h2, h3⟩ => by
  refine ⟨a, h1, ⟨vs, sq_of h2⟩, fun Dl hD => lc_list (xs := vs) (fun i H' => CwR S' H1 Dl (((xs.take i).filter keep).map out) H') ⟨hD, Ex.new hD, [], upd_same, All2.nil⟩ (fun i H' _ p => sq_of (p.2.1 a _ h2)) (fun i v H' hi p => ?_) (fun H' p => ?_)⟩
  · obtain ⟨x, hx, sx⟩ := h3.atV hi
    obtain ⟨σ2, g1, g2, g3, g4⟩ := turn x H' (List.mem_of_getElem? hx) ((e.trans e1).trans p.2.1) v H' (Ex.refl H') (mS _ _ _ _ p.2.1 sx)
    refine g1 _ ⟨g2, ?_⟩
    rw [take_succ_f hx]
    refine cwR_turn mS' p ?_ g3 g4
    have := List.length_filter_le keep (xs.take i)
    rw [List.length_map]
    have h6 : (xs.take i).length ≤ xs.length := by rw [List.length_take]; omega
    omega
  · obtain ⟨p1, p2, acc, p3, p4⟩ := p
    refine q Dl _ (fresh_back e1 p1) (e1.trans p2) ⟨Dl, acc, rfl, p3, ?_⟩
    rw [h3.1, List.take_length] at p4
    exact p4
theorem en_lcR {β : Type} {K : PySem.W.Frag} {σ : L2.St} {H : Hp} {te : TE} {tt : TT} {g : TG} {S' : Hp → V → β → Prop} {own : List Nat} {ta : TA} {n : Nat} (keep : Nat → Bool) (out : Nat → β) (mS' : MoT S') (h : EvA ta σ H [.int (n : Int)]) (hz : n ≤ 40000)
    (turn : ∀ (x : Nat) H1, x < n → Ex H H1 → Tn (fun _ v (x : Nat) => v = .int (x : Int)) S' g tt te (wipe σ own) own keep out x H1) : EN (tLc (iRng1 ta) g tt te own) σ H (fun H' v => LR S' H' v (((List.range n).filter keep).map out)) := fun H0 e Q q => h H0 e _ fun H1 e1 => by
  refine ⟨n, rfl, by omega, by omega, fun Dl hD => ?_⟩
  have e0 : ((n : Int)).toNat = n := Int.toNat_natCast n
  rw [e0]
  refine lc_range (lo := 0) (n := n) (fun i H' => CwR S' H1 Dl ((((List.range n).take i).filter keep).map out) H') ⟨hD, Ex.new hD, [], upd_same, All2.nil⟩ (fun i H' hi p => ?_) (fun H' p => ?_)
  · have hx : (List.range n)[i]? = some i := by rw [List.getElem?_range hi]
    obtain ⟨σ2, g1, g2, g3, g4⟩ := turn i H' hi ((e.trans e1).trans p.2.1) (.int ((0 : Int) + (i : Int))) H' (Ex.refl H') (by rw [Int.zero_add])
    refine g1 _ ⟨g2, ?_⟩
    rw [take_succ_f hx]
    refine cwR_turn mS' p ?_ g3 g4
    have := List.length_filter_le keep ((List.range n).take i)
    rw [List.length_map]
    have h6 : ((List.range n).take i).length ≤ n := by rw [List.length_take, List.length_range]; omega
    omega
  · obtain ⟨p1, p2, acc, p3, p4⟩ := p
    refine q Dl _ (fresh_back e1 p1) (e1.trans p2) ⟨Dl, acc, rfl, p3, ?_⟩
    have ht : (List.range n).take n = List.range n := List.take_of_length_le (by rw [List.length_range]; exact Nat.le_refl _)
    rw [ht] at p4
    exact p4
section
variable {P : Program} {w : World} {K : PySem.W.Frag} {mg : Str → Option Value} {base : Heap} {f : Addr} {fd : FuncData}
def spTen : Sp := fun vs H Q _ => ∃ (q : Addr) (far : Int) (k : Nat), vs = [.ref q, .int far] ∧ Pool H q (k + 3) ∧ 20 ≤ far ∧ far ≤ 10 ^ 30 ∧ ∀ p H' sc l d, 0 < sc → sc ≤ far / 20 → -(far / 2) ≤ l → l ≤ 0 → -(far / 4) ≤ d → d ≤ far / 2 - far / 4 → H p = none → ExQ q H H' → Pool H' q k → LR T2 (hole q H') (.ref p) (tenM sc l d) → Q (.ref p) H'
theorem sc_law_ten : FnScope ["_law_pool_here", "_law_far", "_law_scale", "_law_left", "_law_down", "_law_ten_here", "_law_x", "_law_y"] ["_law_pool_here", "_law_far"] (defScope s_law_ten) := ⟨rfl, rfl, rfl, by decide +kernel, rfl, by decide +kernel, by decide +kernel⟩
theorem ok_law_ten (F : FnP K "_law_ten" s_law_ten f fd) {fI : Addr} {fdI : FuncData} (u_law_draw : Use P w K mg base "_law_draw" 1 ["_law_pool_here", "_law_span"] spDraw fI fdI) : FnOk P w K mg base CX0 2 f fd ["_law_pool_here", "_law_far"] spTen :=
  F.ok sc_law_ten (fun _ _ _ _ ⟨_, _, _, h, _⟩ => by rw [h]; rfl) (fun cdv A outer s H vs Q E hr h => ⟨_, PSs.nox (pss_cons (ps_set (i := 2) sc_law_ten.nd rfl (Or.inr rfl) (pe_op op_add pe_int (pe_call u_law_draw.ok (hr.mono (by decide)) rfl u_law_draw.g u_law_draw.kp u_law_draw.b .nil pass0 (pa_cons (pv 0) (pa_cons (pe_op op_fdivX (pv 1) pe_int) pa_nil))))) (pss_cons (ps_asg (pe_tup (pa_cons (pe_op op_sub (pe_call u_law_draw.ok (hr.mono (by decide)) rfl u_law_draw.g u_law_draw.kp u_law_draw.b .nil pass0 (pa_cons (pv 0) (pa_cons (pe_op op_add (pe_op op_fdivX (pv 1) pe_int) pe_int) pa_nil))) (pe_op op_fdivX (pv 1) pe_int)) (pa_cons (pe_op op_sub (pe_call u_law_draw.ok (hr.mono (by decide)) rfl u_law_draw.g u_law_draw.kp u_law_draw.b .nil pass0 (pa_cons (pv 0) (pa_cons (pe_op op_add (pe_op op_fdivX (pv 1) pe_int) pe_int) pa_nil))) (pe_op op_fdivX (pv 1) pe_int)) pa_nil))) (pg_tup rfl (pgs_cons (pg_name (i := 3) sc_law_ten.nd rfl (Or.inr rfl)) (pgs_cons (pg_name (i := 4) sc_law_ten.nd rfl (Or.inr rfl)) pgs_nil)))) (pss_cons (ps_set (i := 5) sc_law_ten.nd rfl (Or.inl rfl) (pe_lst (pa_cons (pe_tup (pa_cons pe_int (pa_cons pe_int pa_nil))) (pa_cons (pe_tup (pa_cons pe_int (pa_cons (pe_un un_neg pe_int) pa_nil))) (pa_cons (pe_tup (pa_cons pe_int (pa_cons (pe_un un_neg pe_int) pa_nil))) (pa_cons (pe_tup (pa_cons pe_int (pa_cons (pe_un un_neg pe_int) pa_nil))) (pa_cons (pe_tup (pa_cons pe_int (pa_cons (pe_un un_neg pe_int) pa_nil))) (pa_cons (pe_tup (pa_cons pe_int (pa_cons pe_int pa_nil))) (pa_cons (pe_tup (pa_cons pe_int (pa_cons pe_int pa_nil))) (pa_cons (pe_tup (pa_cons pe_int (pa_cons pe_int pa_nil))) (pa_cons (pe_tup (pa_cons pe_int (pa_cons pe_int pa_nil))) (pa_cons (pe_tup (pa_cons pe_int (pa_cons pe_int pa_nil))) pa_nil)))))))))))) (pss_one (ps_ret (pe_lc (own := [("_law_x", 6), ("_law_y", 7)]) rfl sc_law_ten.nd (pi_list (pv 5)) (blkOk_by (own := [("_law_x", 6), ("_law_y", 7)]) (N := ["_law_pool_here", "_law_far", "_law_scale", "_law_left", "_law_down", "_law_ten_here", "_law_x", "_law_y"]) (sc := defScope s_law_ten) (by decide +kernel)) (fun _ _ _ _ _ => (pg_tupK (K := K) (n := 2) rfl rfl (pgs_cons (pg_name (i := 6) sc_law_ten.nd rfl (Or.inl rfl)) (pgs_cons (pg_name (i := 7) sc_law_ten.nd rfl (Or.inl rfl)) pgs_nil)))) (fun _ _ _ _ _ => pts_nil) (fun _ _ _ _ _ => (pe_tup (pa_cons (pe_op op_add (pv 3) (pe_op op_mulW (pv 2) (pv 6))) (pa_cons (pe_op op_add (pv 4) (pe_op op_mulW (pv 2) (pv 7))) pa_nil)))))))))), by
    obtain ⟨q, far, kk, rfl, hp, hf1, hf2, k⟩ := h
    have hf0 : 0 ≤ far := by omega
    have hfb : Bd 100 far := bd_small (nat30 hf0 hf2) (by decide)
    clear hf2
    have b20 : Bd 5 (20 : Int) := by unfold Bd; decide
    have b4 : Bd 5 (4 : Int) := by unfold Bd; decide
    have d20 : far.fdiv 20 = far / 20 := Int.fdiv_eq_ediv_of_nonneg _ (by decide)
    have d2 : far.fdiv 2 = far / 2 := Int.fdiv_eq_ediv_of_nonneg _ (by decide)
    have d4 : far.fdiv 4 = far / 4 := Int.fdiv_eq_ediv_of_nonneg _ (by decide)
    have bf20 : Bd 8000 (far.fdiv 20) := hfb.fdiv.mono (by decide)
    have bf2 : Bd 8000 (far.fdiv 2 + 1) := (hfb.fdiv.add Bd.one).mono (by decide)
    refine sq_asg (m := kk + 2) (c := 0 + 1) (R := DI fun d => 0 < d ∧ d ≤ far / 20) (eq_opI (P1 := fun i => i = 1) (P2 := fun d => 0 ≤ d ∧ d < far.fdiv 20) (eq_int ev_c rfl) (eq_draw (ea2 (ev_var rfl) (ev_op (ev_var rfl) ev_c (rv_I (cdivB (by decide) b20 (by decide))))) (by omega) bf20) (fun i j h1 h2 => by subst h1; omega)) hp fun v1 H1 x1 p1 r1 => ?_
    obtain ⟨sc, rfl, s1, s2⟩ := r1
    have q1 : EQ q (1 + 0) (tOp (rI0 fun i j => .int (i - j)) (tCall spDraw [] E0 (tCons (tVar 0) (tCons (tOp (rI0 fun i j => .int (i + j)) (tOp (rI CDivX fun i j => .int (i.fdiv j)) (tVar 1) (tC (.int 2))) (tC (.int 1))) tNil))) (tOp (rI CDivX fun i j => .int (i.fdiv j)) (tVar 1) (tC (.int 2)))) [some (.ref q), some (.int far), some (.int sc), none, none, none, none, none] (hole q H1) (DI fun d => -(far / 2) ≤ d ∧ d ≤ 0) :=
      eq_opI (g := fun i j => i - j) (P1 := fun d => 0 ≤ d ∧ d < far.fdiv 2 + 1) (P2 := fun d => d = far.fdiv 2) (eq_draw (ea2 (ev_var rfl) (ev_op (ev_op (ev_var rfl) ev_c (rv_I (cdivB (by decide) Bd.two (by decide)))) ev_c rv_I0)) (by omega) bf2) (eq_int (ev_op (ev_var rfl) ev_c (rv_I (cdivB (by decide) Bd.two (by decide)))) rfl) (fun i j h1 h2 => by subst h2; omega)
    have q2 : EQ q (1 + 0) (tOp (rI0 fun i j => .int (i - j)) (tCall spDraw [] E0 (tCons (tVar 0) (tCons (tOp (rI0 fun i j => .int (i + j)) (tOp (rI CDivX fun i j => .int (i.fdiv j)) (tVar 1) (tC (.int 2))) (tC (.int 1))) tNil))) (tOp (rI CDivX fun i j => .int (i.fdiv j)) (tVar 1) (tC (.int 4)))) [some (.ref q), some (.int far), some (.int sc), none, none, none, none, none] (hole q H1) (DI fun d => -(far / 4) ≤ d ∧ d ≤ far / 2 - far / 4) :=
      eq_opI (g := fun i j => i - j) (P1 := fun d => 0 ≤ d ∧ d < far.fdiv 2 + 1) (P2 := fun d => d = far.fdiv 4) (eq_draw (ea2 (ev_var rfl) (ev_op (ev_op (ev_var rfl) ev_c (rv_I (cdivB (by decide) Bd.two (by decide)))) ev_c rv_I0)) (by omega) bf2) (eq_int (ev_op (ev_var rfl) ev_c (rv_I (cdivB (by decide) b4 (by decide)))) rfl) (fun i j h1 h2 => by subst h2; omega)
    refine sq_asgT (m := kk) q1 mo_di q2 mo_di p1 fun v2 v3 H2 x2 p2 r2 r3 => ?_
    obtain ⟨l, rfl, l1, l2⟩ := r2
    obtain ⟨d, rfl, g1, g2⟩ := r3
    refine q_asgR (R := fun H' v => LR T2 H' v tenL) ?_ fun tv H3 e3 rt => ?_
    · refine er_l2 (S := T2) (xs := tenL) ?_ mo_t2 (by decide)
      unfold tenL
      repeat' (first | exact ar_nil2 | refine ar_cons2 (er_tn (ea2 ?_ ?_) (by simp)) mo_t2 ?_ | exact ev_c | exact ev_un ev_c ru_neg)
    have hscb : Bd 100 sc := hfb.nn (by omega) (by omega)
    have hen := en_lc (K := K) (S := T2) (S' := T2) (xs := tenL) (σ := [some (.ref q), some (.int far), some (.int sc), some (.int l), some (.int d), some tv, none, none]) (H := H3) (tl := tVar 5) (te := tTup (tCons (tOp (rI0 fun i j => .int (i + j)) (tVar 3) (tOp (rI CMulW fun i j => .int (i * j)) (tVar 2) (tVar 6))) (tCons (tOp (rI0 fun i j => .int (i + j)) (tVar 4) (tOp (rI CMulW fun i j => .int (i * j)) (tVar 2) (tVar 7))) tNil))) (g := gTup K 2 (gCons (gName 6) (gCons (gName 7) gNil))) (tt := tYes) (own := [6, 7]) (fun _ => true) (fun p : P2 => (l + sc * p.1, d + sc * p.2)) mo_t2 mt_t2 (er_var rfl ((mo_lr mo_t2).at _) rt) (by decide) fun p H4 hp4 e4 => tn_pair (fun v H5 e5 s => t2_tn s) (fun _ _ => rfl) fun y z H5 e5 ey ez => by
      cases ey
      cases ez
      have hpb : Bd 10 p.1 ∧ Bd 10 p.2 := by
        simp only [tenL, List.mem_cons, List.not_mem_nil, or_false] at hp4
        rcases hp4 with rfl | rfl | rfl | rfl | rfl | rfl | rfl | rfl | rfl | rfl <;> (unfold Bd; decide)
      exact er_tn (ea2 (ev_op (ev_var rfl) (ev_op (ev_var rfl) (ev_var rfl) (rv_I (cmulB hscb hpb.1 (by decide)))) rv_I0) (ev_op (ev_var rfl) (ev_op (ev_var rfl) (ev_var rfl) (rv_I (cmulB hscb hpb.2 (by decide)))) rv_I0)) (by simp)
    refine hen H3 (Ex.refl H3) Q fun p H4 hp4 e4 r4 => ?_
    have p4 := (p2.mono e3).mono e4
    have x4 := ((x1.trans x2).trans (Ex.q e3)).trans (Ex.q e4)
    rw [fil_true] at r4
    refine k p H4 sc l d s1 s2 l1 l2 g1 g2 (fresh_q ((x1.trans x2).trans (Ex.q e3)) hp (p2.mono e3) hp4) x4 p4 (lr_hole mt_t2 ((p2.mono e3).ne hp4) p4 r4)⟩)
end
end GF
set_option Elab.async false
set_option linter.all false
set_option maxRecDepth 100000
set_option maxHeartbeats 1000000
set_option exponentiation.threshold 100000
namespace GF
open PySem PySem.Spec PyProof.Rows L2 Evl
def HullOk : Prop := ∀ R : List P2, R.Pairwise ptlt → R ≠ [] → R.length ≤ 8 → (∀ p ∈ R, p.1.natAbs ≤ 10 ^ 30 ∧ p.2.natAbs ≤ 10 ^ 30) → Corners (hullM R)
def TenOk : Prop := ∀ (far sc l d : Int), 20 ≤ far → far ≤ 10 ^ 30 → 0 < sc → sc ≤ far / 20 → -(far / 2) ≤ l → l ≤ 0 → -(far / 4) ≤ d → d ≤ far / 2 - far / 4 → Corners (tenM sc l d)
theorem asc_R {R : List P2} (h : R.Pairwise ptlt) {spots : List P2} (hs : ∀ x ∈ R, x ∈ spots) : R.length ≤ spots.length := nodup_len (h.imp fun {x y} h z => by rw [z] at h; unfold ptlt at h; omega) hs
/-- the sides that a plot may have open -/
def SSok (n : Nat) (ss : List Nat) : Prop := ss.Pairwise (· < ·) ∧ ∀ s ∈ ss, s < n
/-- y = [.. for i in range(n)], told turn by turn -/
theorem q_lcR {ta : TA} {g : TG} {tt : TT} {te : TE} {own : List Nat} {i n : Nat} {tz : TS} {D : Ends} {σ : L2.St} {H : Hp} (h : EvA ta σ H [.int (n : Int)]) (hn : n ≤ 100000) (Pv : Addr → Nat → Hp → Prop) (h0 : ∀ Dl H1, Ex H H1 → H1 Dl = none → Pv Dl 0 (upd H1 Dl (.lst [])))
    (hs : ∀ Dl i H', i < n → Pv Dl i H' → g (.int (i : Int)) (wipe σ own) H' fun σ2 H2 => wipe σ2 own = wipe σ own ∧ tt σ2 H2 fun b H3 => if b = true then te σ2 H3 fun y H4 => ∃ acc, H4 Dl = some (.lst acc) ∧ acc.length < sizeLine ∧ Pv Dl (i + 1) (upd H4 Dl (.lst (acc ++ [y]))) else Pv Dl (i + 1) H3)
    (hd : ∀ Dl H', Pv Dl n H' → tz D (σ.set i (some (.ref Dl))) H') : tSeq (tAsg (tLc (iRng1 ta) g tt te own) (gName i)) tz D σ H :=
  h H (Ex.refl H) _ fun H1 e1 => ⟨(n : Int), rfl, by omega, by omega, fun Dl hDl => by
    have e0 : ((n : Int)).toNat = n := Int.toNat_natCast _
    rw [e0]
    exact lc_range (lo := 0) (n := n) (Pv Dl) (h0 Dl H1 e1 hDl) (fun i H' hi pv => by
      rw [Int.zero_add]
      exact hs Dl i H' hi pv) (fun H' pv => hd Dl H' pv)⟩
theorem sq_two {tu tz : TS} {D : Ends} {σ : L2.St} {H : Hp} {Pm : L2.St → Hp → Prop} (hA : (∀ σ' H', Pm σ' H' → tz D σ' H') → tu { D with nx := tz D } σ H) (hk : ∀ σ' H', Pm σ' H' → tz D σ' H') : tSeq tu tz D σ H := hA hk
section
variable {P : Program} {w : World} {K : PySem.W.Frag} {mg : Str → Option Value} {base : Heap} {f : Addr} {fd : FuncData}
def spPlot : Sp := fun vs H Q _ => ∃ (q : Addr) (far most : Int) (k : Nat), vs = [.ref q, .int far, .int most] ∧ Pool H q (k + 60) ∧ 3 ≤ far ∧ far ≤ 10 ^ 30 ∧ 1 ≤ most ∧ most ≤ 30 ∧ ∀ v H' fen, Valid fen → ExQ q H H' → Pool H' q k → FenV (hole q H') v fen → Q v H'
theorem sc_law_plot : FnScope ["_law_pool_here", "_law_far", "_law_most", "_law_kind", "_law_low", "_law_spots", "_law_flat", "_law_turn_here", "_law_x", "_law_y", "_law_corners_here", "_law_shut", "_law_edge"] ["_law_pool_here", "_law_far", "_law_most"] (defScope s_law_plot) := ⟨rfl, rfl, rfl, by decide +kernel, rfl, by decide +kernel, by decide +kernel⟩
theorem ok_law_plot (HULL : HullOk) (TEN : TenOk) (F : FnP K "_law_plot" s_law_plot f fd) (N : Nm mg) {fI fJ fL : Addr} {fdI fdJ fdL : FuncData} (u_law_draw : Use P w K mg base "_law_draw" 1 ["_law_pool_here", "_law_span"] spDraw fI fdI) (u_law_corners : Use P w K mg base "_law_corners" 2 ["_law_spots"] spCorn fJ fdJ) (u_law_ten : Use P w K mg base "_law_ten" 2 ["_law_pool_here", "_law_far"] spTen fL fdL) : FnOk P w K mg base CX0 3 f fd ["_law_pool_here", "_law_far", "_law_most"] spPlot :=
  F.ok sc_law_plot (fun _ _ _ _ ⟨_, _, _, _, h, _⟩ => by rw [h]; rfl) (fun cdv A outer s H vs Q E hr h => ⟨_, PSs.nox (pss_cons (ps_par3 (i := 3) (j := 4) (l := 5) rfl sc_law_plot.nd rfl rfl rfl (by decide) (by decide) (by decide) rfl rfl rfl (pa_cons (pe_call u_law_draw.ok (hr.mono (by decide)) rfl u_law_draw.g u_law_draw.kp u_law_draw.b .nil pass0 (pa_cons (pv 0) (pa_cons pe_int pa_nil))) (pa_cons (pe_op op_add pe_int (pe_call u_law_draw.ok (hr.mono (by decide)) rfl u_law_draw.g u_law_draw.kp u_law_draw.b .nil pass0 (pa_cons (pv 0) (pa_cons (pv 2) pa_nil)))) (pa_cons (pe_lst pa_nil) pa_nil))) (by rfl)) (pss_cons (ps_set (i := 6) sc_law_plot.nd rfl (Or.inl rfl) (pe_ix ix_seq (pe_lst (pa_cons (pv 1) (pa_cons (pv 1) (pa_cons pe_int (pa_cons (pv 1) (pa_cons (pe_op op_add (pe_op op_fdivX (pv 1) pe_int) pe_int) pa_nil)))))) (pv 3) (fun _ _ => rfl))) (pss_cons (ps_for PassesOwn.never rfl (pi_range1 rfl N.range (pa_cons (pe_ix ix_seq (pe_lst (pa_cons pe_int (pa_cons pe_int (pa_cons pe_int (pa_cons pe_int (pa_cons pe_int pa_nil)))))) (pe_call u_law_draw.ok (hr.mono (by decide)) rfl u_law_draw.g u_law_draw.kp u_law_draw.b .nil pass0 (pa_cons (pv 0) (pa_cons pe_int pa_nil))) (fun _ _ => rfl)) pa_nil)) (pg_name (i := 7) sc_law_plot.nd rfl (Or.inl rfl)) (pss_cons (ps_par (i := 8) (j := 9) rfl sc_law_plot.nd rfl rfl (by decide) rfl rfl (pa_cons (pe_op op_sub (pe_call u_law_draw.ok (hr.mono (by decide)) rfl u_law_draw.g u_law_draw.kp u_law_draw.b .nil pass0 (pa_cons (pv 0) (pa_cons (pe_op op_add (pe_op op_mulW pe_int (pv 1)) pe_int) pa_nil))) (pv 1)) (pa_cons (pe_op op_sub (pe_call u_law_draw.ok (hr.mono (by decide)) rfl u_law_draw.g u_law_draw.kp u_law_draw.b .nil pass0 (pa_cons (pv 0) (pa_cons (pe_op op_add (pe_op op_mulW pe_int (pv 6)) pe_int) pa_nil))) (pv 6)) pa_nil)) (by rfl)) (pss_one (ps_expr (pe_bm PySem.F.plainAttrs_list PySem.F.slot_list_append PySem.F.type_list_append mt_append (pv 5) (pa_cons (pe_ifExp (pt_cmpR op_eq (pv 3) pe_int (nomark _)) (pe_tup (pa_cons (pe_op op_modN (pe_callTy call_int1 (by rfl) N.int (by decide +kernel) (pa_cons (pv 9) pa_nil)) pe_int) (pa_cons (pv 8) pa_nil))) (pe_tup (pa_cons (pv 8) (pa_cons (pv 9) pa_nil)))) pa_nil)))))) (pss_cons (ps_set (i := 10) sc_law_plot.nd rfl (Or.inl rfl) (pe_call u_law_corners.ok (hr.mono (by decide)) rfl u_law_corners.g u_law_corners.kp u_law_corners.b .nil pass0 (pa_cons (pv 5) pa_nil))) (pss_cons (ps_if (PW.pt (pw_and (pt_cmpR op_ge (pv 1) pe_int (nomark _)) (pw_and1 (pt_cmpR op_eq (pe_call u_law_draw.ok (hr.mono (by decide)) rfl u_law_draw.g u_law_draw.kp u_law_draw.b .nil pass0 (pa_cons (pv 0) (pa_cons pe_int pa_nil))) pe_int (nomark _))))) (pss_one (ps_set (i := 10) sc_law_plot.nd rfl (Or.inl rfl) (pe_call u_law_ten.ok (hr.mono (by decide)) rfl u_law_ten.g u_law_ten.kp u_law_ten.b .nil pass0 (pa_cons (pv 0) (pa_cons (pv 1) pa_nil))))) pss_nil) (pss_cons (ps_setLc (i := 11) (own := [("_law_edge", 12)]) (g := gName 12) rfl sc_law_plot.nd rfl rfl (sw_true rfl rfl rfl (by decide +kernel)) (pi_range1 rfl N.range (pa_cons (pe_callB call_len_seq (by rfl) N.len (by decide +kernel) (pa_cons (pv 10) pa_nil)) pa_nil)) (blkOk_by (own := [("_law_edge", 12)]) (N := ["_law_pool_here", "_law_far", "_law_most", "_law_kind", "_law_low", "_law_spots", "_law_flat", "_law_turn_here", "_law_x", "_law_y", "_law_corners_here", "_law_shut", "_law_edge"]) (sc := defScope s_law_plot) (by decide +kernel)) (fun _ _ _ _ _ => (pg_name (i := 12) sc_law_plot.nd rfl (Or.inl rfl))) (fun _ _ _ _ _ => (pts_one (pt_cmpR op_eq (pe_call u_law_draw.ok (hr.mono (by decide)) rfl u_law_draw.g u_law_draw.kp u_law_draw.b .nil pass0 (pa_cons (pv 0) (pa_cons pe_int pa_nil))) pe_int (nomark _)))) (fun _ _ _ _ _ => (pv 12))) (pss_cons (ps_set (i := 11) sc_law_plot.nd rfl (Or.inl rfl) (pe_ix ix_seq (pe_lst (pa_cons (pe_lst pa_nil) (pa_cons (pe_listRg rfl rfl N.list (prg_1 rfl N.range (pe_callB call_len_seq (by rfl) N.len (by decide +kernel) (pa_cons (pv 10) pa_nil)))) (pa_cons (pv 11) pa_nil)))) (pe_call u_law_draw.ok (hr.mono (by decide)) rfl u_law_draw.g u_law_draw.kp u_law_draw.b .nil pass0 (pa_cons (pv 0) (pa_cons pe_int pa_nil))) (fun _ _ => rfl))) (pss_one (ps_ret (pe_tup (pa_cons (pv 4) (pa_cons (pv 10) (pa_cons (pe_ifExp (pt_cmpR op_gt (pe_callB call_len_seq (by rfl) N.len (by decide +kernel) (pa_cons (pv 10) pa_nil)) pe_int (nomark _)) (pv 11) (pe_lst pa_nil)) pa_nil))))))))))))), by
    obtain ⟨q, far, most, kk, rfl, hp, hf3, hf30, hm1, hm30, k⟩ := h
    have hf0 : 0 ≤ far := by omega
    have hfar30 := nat30 hf0 hf30
    have hfb : Bd 100 far := bd_small hfar30 (by decide)
    have hmb : Bd 8000 most := Bd.mono (n := 6) (by unfold Bd; have : most.natAbs ≤ 30 := by omega
                                                    exact Nat.lt_of_le_of_lt this (by decide)) (by decide)
    have b5 : Bd 8000 (5 : Int) := Bd.mono (n := 3) (by unfold Bd; decide) (by decide)
    -- kind, low, spots
    refine sq_par3 (m := kk + 58) (c1 := 1) (c2 := 0 + 1) (c3 := 0) (Ra := DI fun d => 0 ≤ d ∧ d < 5) (Rb := DI fun d => 1 ≤ d ∧ d ≤ 30) (Rc := fun G v => ∃ a, v = .ref a ∧ hole q H a = none ∧ G a = some (.lst [])) (eq_draw (ea2 (ev_var rfl) ev_c) (by decide) b5) mo_di (eq_opI (g := fun i j => i + j) (P1 := fun i => i = 1) (P2 := fun d => 0 ≤ d ∧ d < most) (eq_int ev_c rfl) (eq_draw (ea2 (ev_var rfl) (ev_var rfl)) (by omega) hmb) (fun i j h1 h2 => by subst h1; omega)) mo_di eq_nilF hp fun v1 v2 v3 H1 x1 p1 r1 r2 r3 => ?_
    obtain ⟨kind, rfl, k1, k2⟩ := r1
    obtain ⟨low, rfl, w1, w2⟩ := r2
    obtain ⟨Ds, rfl, hDn, s1⟩ := r3
    -- flat
    have hflat : ∃ flat : Int, atI [V.int far, V.int far, V.int 1, V.int far, V.int (far.fdiv 3 + 1)] kind = some (.int flat) ∧ 1 ≤ flat ∧ flat ≤ far := by
      have h3 : far.fdiv 3 = far / 3 := Int.fdiv_eq_ediv_of_nonneg _ (by decide)
      have hk : kind = 0 ∨ kind = 1 ∨ kind = 2 ∨ kind = 3 ∨ kind = 4 := by omega
      rcases hk with rfl | rfl | rfl | rfl | rfl
      · exact ⟨far, rfl, by omega, by omega⟩
      · exact ⟨far, rfl, by omega, by omega⟩
      · exact ⟨1, rfl, by omega, by omega⟩
      · exact ⟨far, rfl, by omega, by omega⟩
      · exact ⟨far.fdiv 3 + 1, rfl, by omega, by omega⟩
    obtain ⟨flat, hfl, fl1, fl2⟩ := hflat
    have b3 : Bd 5 (3 : Int) := by unfold Bd; decide
    refine q_asg (v := .int flat) (ev_opL1 (el_lst (ea_cons (ev_var rfl) (ea_cons (ev_var rfl) (ea3 ev_c (ev_var rfl) (ev_op (ev_op (ev_var rfl) ev_c (rv_I (cdivB (by decide) b3 (by decide)))) ev_c rv_I0)))) (by simp)) (fun _ _ => ev_var rfl) fun p G hG _ => rv_ixl hG hfl) fun H2 e2 => ?_
    have p2 := p1.mono e2
    have x2 := x1.trans (Ex.q e2)
    have s2 : hole q H2 Ds = some (.lst []) := hole_ex (Ex.q e2) _ _ s1
    have hDq : Ds ≠ q := fun z => by rw [z, hole_off] at s2; cases s2
    have hDn : H Ds = none := by
      have h : (if Ds = q then none else H Ds) = none := hDn
      rwa [if_neg hDq] at h
    have hflb : Bd 100 flat := hfb.nn (by omega) fl2
    -- the loop
    have n5 : ∀ d : Int, 0 ≤ d → d < 5 → ∃ n : Nat, atI [V.int 1, V.int 2, V.int 3, V.int 4, V.int 8] d = some (.int (n : Int)) ∧ 1 ≤ n ∧ n ≤ 8 := fun d h1 h2 => by
      have hk : d = 0 ∨ d = 1 ∨ d = 2 ∨ d = 3 ∨ d = 4 := by omega
      rcases hk with rfl | rfl | rfl | rfl | rfl
      · exact ⟨1, rfl, by decide, by decide⟩
      · exact ⟨2, rfl, by decide, by decide⟩
      · exact ⟨3, rfl, by decide, by decide⟩
      · exact ⟨4, rfl, by decide, by decide⟩
      · exact ⟨8, rfl, by decide, by decide⟩
    have hdr : EQ q (0 + 1) (tOp (rIx K) (tLst (tCons (tC (.int 1)) (tCons (tC (.int 2)) (tCons (tC (.int 3)) (tCons (tC (.int 4)) (tCons (tC (.int 8)) tNil)))))) (tCall spDraw [] E0 (tCons (tVar 0) (tCons (tC (.int 5)) tNil)))) [some (.ref q), some (.int far), some (.int most), some (.int kind), some (.int low), some (.ref Ds), some (.int flat), none, none, none, none, none, none] (hole q H2) (DI fun d => ∃ n : Nat, d = (n : Int) ∧ 1 ≤ n ∧ n ≤ 8) :=
      eq_op (Ra := fun G v => ∃ a, v = .ref a ∧ G a = some (.lst [V.int 1, V.int 2, V.int 3, V.int 4, V.int 8])) (Rb := DI fun d => 0 ≤ d ∧ d < 5) (eq_lstV (ea_cons ev_c (ea_cons ev_c (ea3 ev_c ev_c ev_c))) (by simp)) (fun _ _ _ e ⟨a, h1, h2⟩ => ⟨a, h1, e _ _ h2⟩) (eq_draw (ea2 (ev_var rfl) ev_c) (by decide) b5) mo_di fun G x y e ⟨a, h1, h2⟩ ⟨d, h3, h4, h5⟩ => by
        subst h1
        subst h3
        obtain ⟨n, n1, n2, n3⟩ := n5 d h4 h5
        exact ⟨_, rv_ixl h2 n1, n, rfl, n, rfl, n2, n3⟩
    refine hdr (kk + 57) H2 (Ex.refl _) p2 _ fun vn H3 x3 p3 ⟨nn, hvn, n, hn, n1, n8⟩ => ?_
    subst hvn
    subst hn
    have x03 := x2.trans x3
    have s3 := hole_ex x3 _ _ s2
    refine ⟨(n : Int), rfl, by omega, by omega, for_range (lo := 0) (n := n) (fun i σ H' => ExQ q H H' ∧ Pool H' q (kk + 41 + 2 * (8 - i)) ∧ ∃ (x7 x8 x9 : Option V) (acc : List V) (spots : List P2), σ = [some (.ref q), some (.int far), some (.int most), some (.int kind), some (.int low), some (.ref Ds), some (.int flat), x7, x8, x9, none, none, none] ∧ H' Ds = some (.lst acc) ∧ All2 (T2 H') acc spots ∧ spots.length = i ∧ ∀ p ∈ spots, p.1.natAbs ≤ 10 ^ 30 ∧ p.2.natAbs ≤ 10 ^ 30) ⟨x03, p3, _, _, _, [], [], rfl, hole_sub _ _ s3, All2.nil, rfl, fun p hp => by cases hp⟩ ?_ ?_⟩
    · rintro i σ H4 hi ⟨x4, p4, x7, x8, x9, acc, spots, rfl, hacc, hA, hsl, hsb⟩
      have hi8 : i < 8 := by omega
      have p4' : Pool H4 q (kk + 41 + 2 * (8 - (i + 1)) + ((1 + 0) + (1 + 0))) := by
        have e : kk + 41 + 2 * (8 - (i + 1)) + ((1 + 0) + (1 + 0)) = kk + 41 + 2 * (8 - i) := by omega
        rw [e]
        exact p4
      have bf : Bd 8000 (2 * far + 1) := ((Bd.two.mul hfb).add Bd.one).mono (by decide)
      have bfl : Bd 8000 (2 * flat + 1) := ((Bd.two.mul hflb).add Bd.one).mono (by decide)
      refine sq_par (m := kk + 41 + 2 * (8 - (i + 1))) (c1 := 1 + 0) (c2 := 1 + 0) (Ra := DI fun d => -far ≤ d ∧ d ≤ far) (Rb := DI fun d => -far ≤ d ∧ d ≤ far) (eq_opI (g := fun i j => i - j) (P1 := fun d => 0 ≤ d ∧ d < 2 * far + 1) (P2 := fun d => d = far) (eq_draw (ea2 (ev_var rfl) (ev_op (ev_op ev_c (ev_var rfl) (rv_I (cmulB Bd.two hfb (by decide)))) ev_c rv_I0)) (by omega) bf) (eq_int (ev_var rfl) rfl) (fun i j h1 h2 => by subst h2; omega)) mo_di
        (eq_opI (g := fun i j => i - j) (P1 := fun d => 0 ≤ d ∧ d < 2 * flat + 1) (P2 := fun d => d = flat) (eq_draw (ea2 (ev_var rfl) (ev_op (ev_op ev_c (ev_var rfl) (rv_I (cmulB Bd.two hflb (by decide)))) ev_c rv_I0)) (by omega) bfl) (eq_int (ev_var rfl) rfl) (fun i j h1 h2 => by subst h2; omega)) p4' fun vx vy H5 x5 p5 r5 r6 => ?_
      obtain ⟨dx, rfl, a1, a2⟩ := r5
      obtain ⟨dy, rfl, a3, a4⟩ := r6
      have hacc5 : H5 Ds = some (.lst acc) := x5 _ _ hDq hacc
      have hpt : ∃ p : P2, p.1.natAbs ≤ 10 ^ 30 ∧ p.2.natAbs ≤ 10 ^ 30 ∧ p = (if kind = 3 then (dy.fmod 2, dx) else (dx, dy)) := by
        refine ⟨_, ?_, ?_, rfl⟩
        · split
          · show (dy.fmod 2).natAbs ≤ _
            have h1 := Int.fmod_nonneg_of_pos dy (show (0 : Int) < 2 by decide)
            have h2 := Int.fmod_lt_of_pos dy (show (0 : Int) < 2 by decide)
            exact Nat.le_trans (show (dy.fmod 2).natAbs ≤ 1 by omega) (by decide)
          · show dx.natAbs ≤ _
            exact Nat.le_trans (show dx.natAbs ≤ far.natAbs by omega) hfar30
        · split
          · show dx.natAbs ≤ _
            exact Nat.le_trans (show dx.natAbs ≤ far.natAbs by omega) hfar30
          · show dy.natAbs ≤ _
            exact Nat.le_trans (show dy.natAbs ≤ far.natAbs by omega) hfar30
      obtain ⟨pt, pt1, pt2, hpt⟩ := hpt
      refine s_appR (R := fun H' v => T2 H' v pt) hacc5 (ev_var rfl) (er_if (et_test (ev_op (ev_var rfl) ev_c rv_eqI)) (fun hb => ?_) (fun hb => ?_)) (by have := hA.1; omega) fun v H6 e6 r => ?_
      · rw [if_pos (of_decide_eq_true hb)] at hpt
        subst hpt
        exact er_tn (ea2 (ev_op (ev_intI (ev_var rfl)) ev_c (rv_I (by decide))) (ev_var rfl)) (by simp)
      · rw [if_neg (of_decide_eq_false hb)] at hpt
        subst hpt
        exact er_tn (ea2 (ev_var rfl) (ev_var rfl)) (by simp)
      · have hD6 := e6 _ _ hacc5
        have up : TupUp H4 H6 := fun a xs h => e6 _ _ (q_tup p4 x5 a xs h)
        have p6 : Pool (upd H6 Ds (.lst (acc ++ [v]))) q (kk + 41 + 2 * (8 - (i + 1))) := by
          obtain ⟨c1, c2, c3, g1, g2⟩ := p5.mono e6
          exact ⟨c1, c2, c3, by rw [upd_ne hDq.symm]; exact g1, g2⟩
        refine ⟨((x4.trans x5).trans (Ex.q e6)).mut hDn, p6, _, _, _, acc ++ [v], spots ++ [pt], rfl, upd_same, ?_, by rw [List.length_append, hsl]; rfl, fun p hp => ?_⟩
        · exact All2.app (hA.mono fun v x h => mt_t2 _ _ _ _ (TupUp.lst hD6) (mt_t2 _ _ _ _ up h)) (All2.one (mt_t2 _ _ _ _ (TupUp.lst hD6) r))
        · rcases List.mem_append.mp hp with hp | hp
          · exact hsb p hp
          · rw [List.mem_singleton] at hp
            rw [hp]
            exact ⟨pt1, pt2⟩
    · rintro σ H4 ⟨x4, p4, x7, x8, x9, acc, spots, rfl, hacc, hA, hsl, hsb⟩
      have p4 : Pool H4 q (kk + 41) := p4.less (by omega)
      refine ⟨_, rfl, .ref Ds, spots, rfl, ⟨Ds, acc, rfl, hacc, hA⟩, by omega, by omega, fun p hp => bd_place (hsb p hp), fun R pc H5 hR1 hR2 hR3 hpc e5 hhull => ?_⟩
      have p5 := p4.mono e5
      have x5 := x4.trans (Ex.q e5)
      have hRc := HULL R hR1 hR3 (by have := asc_R hR1 hR2; omega) (fun p hp => hsb p (hR2 p hp))
      have hhull5 := lr_hole mt_t2 (p4.ne hpc) p5 hhull
      have b38 : Bd 8000 (3 : Int) := Bd.mono (n := 3) (by unfold Bd; decide) (by decide)
      have b6 : Bd 8000 (6 : Int) := Bd.mono (n := 3) (by unfold Bd; decide) (by decide)
      dsimp only [gName]
      refine sq_two (Pm := fun σ' H' => ∃ (pc : Addr) (ps : List P2), σ' = [some (.ref q), some (.int far), some (.int most), some (.int kind), some (.int low), some (.ref Ds), some (.int flat), x7, x8, x9, some (.ref pc), none, none] ∧ ExQ q H H' ∧ Pool H' q (kk + 37) ∧ LR T2 (hole q H') (.ref pc) ps ∧ Corners ps) (fun kz => ?_) ?_
      · refine et_test (ev_op (ev_var rfl) ev_c rv_I0) H5 (Ex.refl _) _ fun H6 e6 => ?_
        have p6 := p5.mono e6
        have x6 := x5.trans (Ex.q e6)
        have hh6 := mo_lr mo_t2 _ _ _ _ (hole_ex (Ex.q e6)) hhull5
        obtain ⟨bb, hbb⟩ : ∃ b, b = decide (far ≥ 20) := ⟨_, rfl⟩
        rw [← hbb]
        cases bb with
        | true =>
          have hf20 : far ≥ 20 := of_decide_eq_true hbb.symm
          rw [if_pos rfl]
          refine tq_draw (G := hole q H6) (ea2 (ev_var rfl) ev_c) (by decide) b6 (kk + 40) H6 (Ex.refl _) p6 _ fun b H7 x7' p7 => ?_
          have hh7 := mo_lr mo_t2 _ _ _ _ (hole_ex x7') hh6
          cases b with
          | true =>
            refine ⟨_, rfl, _, rfl, q, far, kk + 37, rfl, p7, hf20, hf30, fun pt H8 sc l d g1 g2 g3 g4 g5 g6 hpt x8 p8 r8 => ?_⟩
            exact kz _ _ ⟨pt, tenM sc l d, rfl, (x6.trans x7').trans x8, p8, r8, TEN far sc l d hf20 hf30 g1 g2 g3 g4 g5 g6⟩
          | false => exact kz _ _ ⟨pc, hullM R, rfl, x6.trans x7', p7.less (by omega), hh7, hRc⟩
        | false =>
          exact kz _ _ ⟨pc, hullM R, rfl, x6, p6.less (by omega), hh6, hRc⟩
      · rintro σ' H6 ⟨pc, ps, rfl, x6, p6, hps, hcs⟩
        have hpl : ps.length ≤ 10 := hcs.2.1
        have hpcq : pc ≠ q := fun z => by
          obtain ⟨a, us, e1, e2, _⟩ := hps
          cases e1
          rw [z, hole_off] at e2
          cases e2
        -- shut
        have vlen : ∀ {σ : L2.St} {H7 : Hp}, ExQ q H6 H7 → σ[10]? = some (some (.ref pc)) → Ev (tCB (Evl.rLenS K) (tCons (tVar 10) tNil)) σ H7 (.int (ps.length : Int)) := fun x hs => ev_lenL (ev_var hs) (mo_lr mo_t2 _ _ _ _ ((hole_ex x).trans hole_sub) hps)
        have hlen2 : ps.length ≤ 100000 := by omega
        refine q_lcR (ea1 (vlen (ExQ.refl _ _) rfl)) hlen2 (fun Dl i H' => Dl ≠ q ∧ H6 Dl = none ∧ ExQ q H6 H' ∧ Pool H' q (kk + 27 + (10 - i)) ∧ ∃ (acc : List V) (ss : List Nat), H' Dl = some (.lst acc) ∧ All2 (IsN H') acc ss ∧ ss.length ≤ i ∧ SSok i ss) (fun Dl H7 e7 hDl => ⟨(p6.mono e7).ne hDl, fresh_back e7 hDl, (Ex.q e7).mut (fresh_back e7 hDl), (p6.mono e7).new hDl, [], [], upd_same, All2.nil, Nat.le_refl _, List.Pairwise.nil, fun s hs => by cases hs⟩) (fun Dl i H8 hi pv => ?_) (fun Dl H8 pv => ?_)
        · obtain ⟨hDlq, h60, x8, p8, acc, ss, hacc, hA, hsl, hs1, hs2⟩ := pv
          have p8' : Pool H8 q (kk + 27 + (10 - (i + 1)) + 1) := by
            have e : kk + 27 + (10 - (i + 1)) + 1 = kk + 27 + (10 - i) := by omega
            rw [e]
            exact p8
          refine ⟨rfl, tq_draw (G := hole q H8) (ea2 (ev_var rfl) ev_c) (by decide) (Bd.two.mono (by decide)) (kk + 27 + (10 - (i + 1))) H8 (Ex.refl _) p8' _ fun b H9 x9' p9 => ?_⟩
          have hacc9 : H9 Dl = some (.lst acc) := x9' _ _ hDlq hacc
          cases b with
          | true =>
            refine ⟨_, rfl, acc, hacc9, sz_lt (by have := hA.1; omega), hDlq, h60, ((x8.trans x9').mut h60), ?_, acc ++ [.int (i : Int)], ss ++ [i], upd_same, ?_, by rw [List.length_append]; simp; omega, ?_, fun s hs => ?_⟩
            · obtain ⟨c1, c2, c3, g1, g2⟩ := p9
              exact ⟨c1, c2, c3, by rw [upd_ne hDlq.symm]; exact g1, g2⟩
            · exact All2.app (hA.mono fun v x h => h) (All2.one rfl)
            · rw [List.pairwise_append]
              refine ⟨hs1, by simp, fun a ha b hb => ?_⟩
              rw [List.mem_singleton] at hb
              rw [hb]
              exact hs2 a ha
            · rcases List.mem_append.mp hs with hs | hs
              · exact Nat.lt_succ_of_lt (hs2 s hs)
              · rw [List.mem_singleton] at hs
                omega
          | false => exact ⟨hDlq, h60, x8.trans x9', p9, acc, ss, hacc9, hA, Nat.le_succ_of_le hsl, hs1, fun s hs => Nat.lt_succ_of_lt (hs2 s hs)⟩
        · obtain ⟨hDlq, h60, x8, p8, acc, ss, hacc, hA, hsl, hss⟩ := pv
          have p8 : Pool H8 q (kk + 1) := p8.less (by omega)
          have hsh : LR IsN (hole q H8) (.ref Dl) ss := ⟨Dl, acc, rfl, hole_at hacc hDlq, hA⟩
          have hps8 := mo_lr mo_t2 _ _ _ _ (hole_ex x8) hps
          refine sq_asg (m := kk) (c := (0 + 0 + 0) + 1) (R := fun G v => ∃ ss', LR IsN G v ss' ∧ SSok ps.length ss') (eq_op (Ra := fun G' v => ∃ a x y z, v = .ref a ∧ G' a = some (.lst [x, y, z]) ∧ LR IsN G' x [] ∧ LR IsN G' y (List.range ps.length) ∧ LR IsN G' z ss) (Rb := DI fun d => 0 ≤ d ∧ d < 3) (eq_lst3 eq_nil ((mo_lr mt_n.mo).at _) (eq_rng (ev_lenL (ev_var rfl) hps8) (by omega)) ((mo_lr mt_n.mo).at _) (eq_ev (ev_var rfl) fun G' e' => mo_lr mt_n.mo _ _ _ _ e' hsh) ((mo_lr mt_n.mo).at _)) (fun _ _ _ e ⟨a, x, y, z, g1, g2, g3, g4, g5⟩ => ⟨a, x, y, z, g1, e _ _ g2, mo_lr mt_n.mo _ _ _ _ e g3, mo_lr mt_n.mo _ _ _ _ e g4, mo_lr mt_n.mo _ _ _ _ e g5⟩) (eq_draw (ea2 (ev_var rfl) ev_c) (by decide) b38) (fun _ _ _ e ⟨ss', g1, g2⟩ => ⟨ss', mo_lr mt_n.mo _ _ _ _ e g1, g2⟩) fun G x y e ⟨a, u1, u2, u3, g1, g2, g3, g4, g5⟩ ⟨d, g6, g7, g8⟩ => ?_) p8 fun vsh H9 x9' p9 r9 => ?_
          · subst g1
            subst g6
            have hk : d = 0 ∨ d = 1 ∨ d = 2 := by omega
            rcases hk with rfl | rfl | rfl
            · exact ⟨u1, rv_ixl g2 rfl, [], g3, List.Pairwise.nil, fun s hs => by cases hs⟩
            · exact ⟨u2, rv_ixl g2 rfl, _, g4, List.pairwise_lt_range, fun s hs => List.mem_range.mp hs⟩
            · exact ⟨u3, rv_ixl g2 rfl, ss, g5, hss⟩
          · obtain ⟨ss', h9, hs1, hs2⟩ := r9
            have hps9 := mo_lr mo_t2 _ _ _ _ (hole_ex x9') hps8
            refine sq_ret (m := kk) (c := 0 + 0 + 0) (R := fun G v => ∃ a x y z, v = .ref a ∧ G a = some (.tup [x, y, z]) ∧ x = .int low ∧ LR T2 G y ps ∧ LR IsN G z (if ps.length > 1 then ss' else [])) (eq_tup3 (eq_is (ev_var rfl)) mo_is (eq_ev (ev_var rfl) fun G' e' => mo_lr mo_t2 _ _ _ _ e' hps9) ((mo_lr mo_t2).at _) (eq_if (R := fun G v => LR IsN G v (if ps.length > 1 then ss' else [])) (et_test (ev_op (ev_lenL (ev_var rfl) hps9) ev_c rv_I0)) (fun hb => ?_) (fun hb => ?_)) ((mo_lr mt_n.mo).at _)) p9 fun v H10 x10 p10 r10 => ?_
            · have hb : (ps.length : Int) > 1 := of_decide_eq_true hb
              rw [if_pos (by omega)]
              exact eq_ev (ev_var rfl) fun G' e' => mo_lr mt_n.mo _ _ _ _ e' h9
            · have hb : ¬ (ps.length : Int) > 1 := of_decide_eq_false hb
              rw [if_neg (by omega)]
              exact eq_nil
            · obtain ⟨a, x, y, z, rfl, g2, rfl, g4, g5⟩ := r10
              refine k _ H10 (low, ps, if ps.length > 1 then ss' else []) ⟨w1, w2, hcs, ?_, ?_⟩ (((x6.trans x8).trans x9').trans x10) p10 ⟨a, y, z, rfl, g2, g4, g5⟩
              · show (if ps.length > 1 then ss' else []).Pairwise (· < ·)
                split
                · exact hs1
                · exact List.Pairwise.nil
              · show ∀ s ∈ (if ps.length > 1 then ss' else []), s < sidesN ps.length
                intro s hs
                split at hs
                · rename_i h1
                  rw [sidesN, if_pos h1]
                  exact hs2 s hs
                · cases hs⟩)
end
end GF
set_option Elab.async false
set_option linter.all false
set_option maxRecDepth 100000
set_option maxHeartbeats 1000000
set_option exponentiation.threshold 100000
namespace GF
open PySem PySem.Spec PyProof.Rows L2 Evl
/-! ### what the plain laws say -/
def LawBelow : Prop := ∀ (q : Fen) (size : Int), Valid q → SzOk size → countM q size (some (boxAt q.1 q.2.1 size 1).2) = countM q size none
def LawOpen : Prop := ∀ (q : Fen) (size : Int), Valid q → SzOk size → countM (q.1, q.2.1, []) size none - countM q size none = openM q.1 q.2.1 q.2.2 size
def besideM (n e i : Nat) : Nat := if i = 0 then prevM n e else nextM n e
def spotM (n e i : Nat) : Nat := if i = 0 then e % n else nextM n e
def lostAt (q : Fen) (size : Int) (e i : Nat) : Int := if (decide (besideM q.2.1.length e i ∈ q.2.2) && lawStake q.1 q.2.1 size (spotM q.2.1.length e i)) = true then 1 else 0
def LawMore : Prop := ∀ (q : Fen) (size : Int) (e : Nat) (ss' : List Nat), Valid q → SzOk size → 3 ≤ q.2.1.length → e < q.2.1.length → e ∉ q.2.2 → ss'.Perm (q.2.2 ++ [e]) → ss'.Pairwise (· < ·) →
  countM q size none - countM (q.1, q.2.1, ss') size none = sideM q.1 (scaleM size q.2.1) e - lostAt q size e 0 - lostAt q size e 1
def LawHolds : Prop := ∀ (q : Fen) (size : Int) (pt : Pt), Valid q → SzOk size → holdsM q.1 (scaleM size q.2.1) q.2.2 pt = (holdsM q.1 (scaleM size q.2.1) [] pt && q.2.2.all fun e => holdsM q.1 (scaleM size q.2.1) [e] pt)
theorem valid_with {q : Fen} (h : Valid q) {ss : List Nat} (h1 : ss.Pairwise (· < ·)) (h2 : ∀ s ∈ ss, s < sidesN q.2.1.length) : Valid (q.1, q.2.1, ss) := ⟨h.1, h.2.1, h.2.2.1, h1, h2⟩
theorem valid_nil {q : Fen} (h : Valid q) : Valid (q.1, q.2.1, []) := valid_with h List.Pairwise.nil fun s hs => by cases hs
/-- the sides in order, one more -/
theorem sort_more {ss : List Nat} {e : Nat} {ns : List Int} (hp : ns.Perm ((ss ++ [e]).map fun n : Nat => (n : Int))) (hs : ns.Pairwise (· ≤ ·)) (ha : ss.Pairwise (· < ·)) (he : e ∉ ss) : ∃ ss' : List Nat, ns = (ss'.map fun n : Nat => (n : Int)) ∧ ss'.Perm (ss ++ [e]) ∧ ss'.Pairwise (· < ·) := by
  have hnn : ∀ x ∈ ns, ((x.toNat : Nat) : Int) = x := fun x hx => by
    obtain ⟨n, _, rfl⟩ := List.mem_map.mp (hp.mem_iff.mp hx)
    rfl
  have e1 : ns = ((ns.map Int.toNat).map fun n : Nat => (n : Int)) := by
    rw [List.map_map]
    conv => lhs; rw [← List.map_id ns]
    refine List.map_congr_left fun x hx => ?_
    exact (hnn x hx).symm
  have e2 : (ns.map Int.toNat).Perm (ss ++ [e]) := by
    have := hp.map Int.toNat
    rw [List.map_map] at this
    have e3 : (ss ++ [e]).map (Int.toNat ∘ fun n : Nat => (n : Int)) = ss ++ [e] := by
      conv => rhs; rw [← List.map_id (ss ++ [e])]
      refine List.map_congr_left fun x _ => ?_
      rfl
    rw [e3] at this
    exact this
  refine ⟨ns.map Int.toNat, e1, e2, ?_⟩
  have hnd : (ns.map Int.toNat).Nodup := by
    rw [e2.nodup_iff, List.nodup_append]
    refine ⟨ha.imp fun h => Nat.ne_of_lt h, by simp, fun a ha b hb => ?_⟩
    rw [List.mem_singleton] at hb
    rw [hb]
    intro z
    rw [z] at ha
    exact he ha
  have hle : (ns.map Int.toNat).Pairwise (· ≤ ·) := by
    rw [List.pairwise_map]
    exact hs.imp fun h => Int.toNat_le_toNat h
  exact (hle.and hnd).imp fun h => Nat.lt_of_le_of_ne h.1 h.2
section
variable {P : Program} {w : World} {K : PySem.W.Frag} {mg : Str → Option Value} {base : Heap} {f : Addr} {fd : FuncData}
theorem er_fen3 {ta tb tx : TE} {σ : L2.St} {H : Hp} {b : Int} {ps : List P2} {ss : List Nat} (h1 : Ev ta σ H (.int b)) (h2 : ER tb σ H (fun H' v => LR T2 H' v ps)) (h3 : ER tx σ H (fun H' v => LR IsN H' v ss)) : ER (tTup (tCons ta (tCons tb (tCons tx tNil)))) σ H (fun H' v => FenV H' v (b, ps, ss)) :=
  (er_tup (ar_cons (er_is h1) mo_is (ar_cons h2 ((mo_lr mo_t2).at _) (ar_cons h3 ((mo_lr mt_n.mo).at _) ar_nil))) (mo_consA mo_is (mo_consA ((mo_lr mo_t2).at _) (mo_consA ((mo_lr mt_n.mo).at _) mo_nilA))) (fun _ _ ⟨_, _, h, _, _, _, h2, _, _, _, h3, _, h4⟩ => by
    subst h4
    subst h3
    subst h2
    subst h
    simp)).imp fun H1 v e ⟨a, vs, ev, hv, x, ws, e1, e2, y, us, e3, e4, z, ts, e5, e6, e7⟩ => by
      subst e7
      subst e5
      subst e3
      subst e1
      cases e2
      exact ⟨a, y, z, ev, hv, e4, e6⟩
theorem er_fenX {ta tb tx : TE} {σ : L2.St} {H : Hp} {b : Int} {ps : List P2} {Rx : Hp → V → Prop} (h1 : Ev ta σ H (.int b)) (h2 : ER tb σ H (fun H' v => LR T2 H' v ps)) (h3 : ER tx σ H Rx) (mx : Mo Rx) : ER (tTup (tCons ta (tCons tb (tCons tx tNil)))) σ H (fun H' v => ∃ a y z, v = .ref a ∧ H' a = some (.tup [.int b, y, z]) ∧ LR T2 H' y ps ∧ Rx H' z) :=
  (er_tup (ar_cons (er_is h1) mo_is (ar_cons h2 ((mo_lr mo_t2).at _) (ar_cons h3 mx ar_nil))) (mo_consA mo_is (mo_consA ((mo_lr mo_t2).at _) (mo_consA mx mo_nilA))) (fun _ _ ⟨_, _, h, _, _, _, h2, _, _, _, h3, _, h4⟩ => by
    subst h4
    subst h3
    subst h2
    subst h
    simp)).imp fun H1 v e ⟨a, vs, ev, hv, x, ws, e1, e2, y, us, e3, e4, z, ts, e5, e6, e7⟩ => by
      subst e7
      subst e5
      subst e3
      subst e1
      cases e2
      exact ⟨a, y, z, ev, hv, e4, e6⟩
/-- a new list of nothing, of one count -/
theorem er_nilN {σ : L2.St} {H : Hp} : ER (tLst tNil) σ H (fun H' v => LR IsN H' v []) := er_l2 (S := IsN) ar_nil2 mt_n.mo (by simp)
theorem er_oneN {te : TE} {σ : L2.St} {H : Hp} {n : Nat} (h : Ev te σ H (.int (n : Int))) : ER (tLst (tCons te tNil)) σ H (fun H' v => LR IsN H' v [n]) := er_l2 (S := IsN) (ar_cons2 (er_ev h fun _ _ => rfl) mt_n.mo ar_nil2) mt_n.mo (by simp)
/-- rest == [] -/
theorem ev_eqNilN {te : TE} {σ : L2.St} {H : Hp} {v : V} {ss : List Nat} (h : Ev te σ H v) (hl : LR IsN H v ss) : Ev (tOp (rEqD K) te (tLst tNil)) σ H (.bl ss.isEmpty) := fun H1 e Q q =>
  h H1 e _ fun H2 e2 => ⟨by decide, fun p hp => by
    obtain ⟨a, rfl, h2⟩ := (mo_lr mt_n.mo _ _ _ _ ((e.trans e2).trans (Ex.new hp)) hl).nats
    have hd : ∀ ss : List Nat, DpAll K (upd H2 p (.lst [])) (ss.map fun n : Nat => V.int (n : Int)) (ss.map fun n : Nat => PyData.int (n : Int)) := fun ss => by
      induction ss with
      | nil => exact .nil
      | cons s r ih => exact .cons (.int _) ih
    refine ⟨.list (ss.map fun n : Nat => PyData.int (n : Int)), .list [], .lst (sq_of h2) (hd ss), .lst (sq_of upd_same) .nil, ?_, rfl, ?_⟩
    · have h1 : PyData.canLayAll0 (ss.map fun n : Nat => PyData.int (n : Int)) = true := by
        induction ss with
        | nil => rfl
        | cons p r ih =>
          show (true && PyData.canLayAll0 (r.map fun n : Nat => PyData.int (n : Int))) = true
          rw [Bool.true_and]
          exact canL r
      have h2 : PyData.depthAll (ss.map fun n : Nat => PyData.int (n : Int)) ≤ 1 := dpL ss
      show (PyData.canLayAll0 (ss.map fun n : Nat => PyData.int (n : Int)) && decide (PyData.depthAll (ss.map fun n : Nat => PyData.int (n : Int)) + 1 ≤ 64)) = true
      rw [h1, decide_eq_true (by omega)]
      rfl
    · have e3 : PyData.eqv (.list (ss.map fun n : Nat => PyData.int (n : Int))) (.list []) = ss.isEmpty := by
        cases ss with
        | nil => rfl
        | cons p r => simp [PyData.eqv, PyData.eqvAll]
      rw [e3]
      exact q _ (e2.trans (Ex.new hp))⟩
where
  canL : ∀ r : List Nat, PyData.canLayAll0 (r.map fun n : Nat => PyData.int (n : Int)) = true
    | [] => rfl
    | p :: r => by
      show (true && PyData.canLayAll0 (r.map fun n : Nat => PyData.int (n : Int))) = true
      rw [Bool.true_and]
      exact canL r
  dpL : ∀ r : List Nat, PyData.depthAll (r.map fun n : Nat => PyData.int (n : Int)) ≤ 1
    | [] => by simp [PyData.depthAll]
    | p :: r => by
      have := dpL r
      rw [List.map_cons]
      simp only [PyData.depthAll, PyData.depth]
      omega
theorem q_asgN {te : TE} {σ : L2.St} {H : Hp} {R : Hp → V → Prop} {D : Ends} {tz : TS} {i : Nat} (h : EN te σ H R) (k : ∀ p H1, H p = none → Ex H H1 → R H1 (.ref p) → tz D (σ.set i (some (.ref p))) H1) : tSeq (tAsg te (gName i)) tz D σ H := h H (Ex.refl H) (fun v H1 => tz D (σ.set i (some v)) H1) k
theorem er_pair {ta tb : TE} {σ : L2.St} {H : Hp} {xs ys : List V} (ha : ER ta σ H (fun H' v => TN H' v xs)) (hb : ER tb σ H (fun H' v => TN H' v ys)) : ER (tTup (tCons ta (tCons tb tNil))) σ H (fun H' v => ∃ a us, v = .ref a ∧ H' a = some (.tup us) ∧ us.length = 2 ∧ ∃ x y, us = [x, y] ∧ TN H' x xs ∧ TN H' y ys) :=
  (er_tup (ar_cons ha (mo_tn.at _) (ar_cons hb (mo_tn.at _) ar_nil)) (mo_consA (mo_tn.at _) (mo_consA (mo_tn.at _) mo_nilA)) (fun _ _ ⟨_, _, h, _, _, _, h2, _, h3⟩ => by
    subst h3
    subst h2
    subst h
    simp)).imp fun H1 v e ⟨a, vs, ev, hv, x, ws, e1, e2, y, us, e3, e4, e5⟩ => by
      subst e5
      subst e3
      subst e1
      exact ⟨a, _, ev, hv, rfl, x, y, rfl, e2, e4⟩
def restM (n : Nat) (ss : List Nat) : List Nat := (List.range n).filter fun e => !decide (e ∈ ss)
def spOne : Sp := fun vs H Q _ => ∃ (q : Addr) (v : V) (fen : Fen) (often : Int) (k : Nat), vs = [.ref q, v, .int often] ∧ Pool H q (k + 1) ∧ FenV (hole q H) v fen ∧ Valid fen ∧ SzOk often ∧ ∀ H', ExQ q H H' → Pool H' q k → Q (.bl true) H'
theorem sc_law_one_more_right : FnScope ["_law_pool_here", "_law_plot_here", "_law_often", "_law_low", "_law_corners_here", "_law_shut", "_law_rest", "_law_edge", "_law_lost", "_law_spot", "_law_beside", "_law_wider"] ["_law_pool_here", "_law_plot_here", "_law_often"] (defScope s_law_one_more_right) := ⟨rfl, rfl, rfl, by decide +kernel, rfl, by decide +kernel, by decide +kernel⟩
theorem ok_one (MORE : LawMore) (F : FnP K "_law_one_more_right" s_law_one_more_right f fd) (N : Nm mg) {f1 f2 f3 f4 : Addr} {fd1 fd2 fd3 fd4 : FuncData} (u_law_draw : Use P w K mg base "_law_draw" 1 ["_law_pool_here", "_law_span"] spDraw f1 fd1) (u_side_count : Use P w K mg base "side_count" 8 ["fence", "side", "size"] spSideCount f2 fd2) (u_law_is_stake : Use P w K mg base "_law_is_stake" 1 ["_law_plot_here", "_law_often", "_law_spot"] spLStake f3 fd3) (u_stake_count : Use P w K mg base "stake_count" 9 ["fence", "size"] spCount f4 fd4) :
    FnOk P w K mg base CX0 10 f fd ["_law_pool_here", "_law_plot_here", "_law_often"] spOne :=
  F.ok sc_law_one_more_right (fun _ _ _ _ ⟨_, _, _, _, _, h, _⟩ => by rw [h]; rfl) (fun cdv A outer s H vs Q E hr h => ⟨_, PSs.nox (pss_cons (ps_asg (pv 1) (pg_tup rfl (pgs_cons (pg_name (i := 3) sc_law_one_more_right.nd rfl (Or.inl rfl)) (pgs_cons (pg_name (i := 4) sc_law_one_more_right.nd rfl (Or.inl rfl)) (pgs_cons (pg_name (i := 5) sc_law_one_more_right.nd rfl (Or.inr rfl)) pgs_nil))))) (pss_cons (ps_setLc (i := 6) (own := [("_law_edge", 7)]) (g := gName 7) rfl sc_law_one_more_right.nd rfl rfl (sw_true rfl rfl rfl (by decide +kernel)) (pi_range1 rfl N.range (pa_cons (pe_callB call_len_seq (by rfl) N.len (by decide +kernel) (pa_cons (pv 4) pa_nil)) pa_nil)) (blkOk_by (own := [("_law_edge", 7)]) (N := ["_law_pool_here", "_law_plot_here", "_law_often", "_law_low", "_law_corners_here", "_law_shut", "_law_rest", "_law_edge", "_law_lost", "_law_spot", "_law_beside", "_law_wider"]) (sc := defScope s_law_one_more_right) (by decide +kernel)) (fun _ _ _ _ _ => (pg_name (i := 7) sc_law_one_more_right.nd rfl (Or.inl rfl))) (fun _ _ _ _ _ => (pts_one (pt_cmpR (op_niK (K := K) rfl) (pv 7) (pv 5) (by rfl)))) (fun _ _ _ _ _ => (pv 7))) (pss_cons (ps_if (PW.pt (pw_or (pt_cmpR (op_eqD hr.units) (pv 6) (pe_lst pa_nil) (by rfl)) (pw_or1 (pt_cmpR op_lt (pe_callB call_len_seq (by rfl) N.len (by decide +kernel) (pa_cons (pv 4) pa_nil)) pe_int (nomark _))))) (pss_one (ps_ret pe_bl)) pss_nil) (pss_cons (ps_set (i := 7) sc_law_one_more_right.nd rfl (Or.inl rfl) (pe_ix ix_seq (pv 6) (pe_call u_law_draw.ok (hr.mono (by decide)) rfl u_law_draw.g u_law_draw.kp u_law_draw.b .nil pass0 (pa_cons (pv 0) (pa_cons (pe_callB call_len_seq (by rfl) N.len (by decide +kernel) (pa_cons (pv 6) pa_nil)) pa_nil))) (fun _ _ => rfl))) (pss_cons (ps_set (i := 8) sc_law_one_more_right.nd rfl (Or.inl rfl) (pe_call u_side_count.ok (hr.mono (by decide)) rfl u_side_count.g u_side_count.kp u_side_count.b .nil pass0 (pa_cons (pv 1) (pa_cons (pv 7) (pa_cons (pv 2) pa_nil))))) (pss_cons (ps_for PassesOwn.never rfl (pi_tup (pe_tup (pa_cons (pe_tup (pa_cons (pv 7) (pa_cons (pe_op op_sub (pv 7) pe_int) pa_nil))) (pa_cons (pe_tup (pa_cons (pe_op op_add (pv 7) pe_int) (pa_cons (pe_op op_add (pv 7) pe_int) pa_nil))) pa_nil)))) (pg_tup rfl (pgs_cons (pg_name (i := 9) sc_law_one_more_right.nd rfl (Or.inl rfl)) (pgs_cons (pg_name (i := 10) sc_law_one_more_right.nd rfl (Or.inl rfl)) pgs_nil))) (pss_one (ps_if (PW.pt (pw_and (pt_cmpR op_in_seq (pe_op op_modN (pe_callTy call_int1 (by rfl) N.int (by decide +kernel) (pa_cons (pv 10) pa_nil)) (pe_callB call_len_seq (by rfl) N.len (by decide +kernel) (pa_cons (pv 4) pa_nil))) (pv 5) (by rfl)) (pw_and1 (pt_val (pe_call u_law_is_stake.ok (hr.mono (by decide)) rfl u_law_is_stake.g u_law_is_stake.kp u_law_is_stake.b .nil pass0 (pa_cons (pv 1) (pa_cons (pv 2) (pa_cons (pe_op op_modN (pe_callTy call_int1 (by rfl) N.int (by decide +kernel) (pa_cons (pv 9) pa_nil)) (pe_callB call_len_seq (by rfl) N.len (by decide +kernel) (pa_cons (pv 4) pa_nil))) pa_nil)))))))) (pss_one (ps_set (i := 8) sc_law_one_more_right.nd rfl (Or.inl rfl) (pe_op op_sub (pv 8) pe_int))) pss_nil))) (pss_cons (ps_set (i := 11) sc_law_one_more_right.nd rfl (Or.inl rfl) (pe_tup (pa_cons (pv 3) (pa_cons (pv 4) (pa_cons (pe_callB cr_sorted (by rfl) N.sorted (by decide +kernel) (pa_cons (pe_op op_cat (pv 5) (pe_lst (pa_cons (pv 7) pa_nil))) pa_nil)) pa_nil))))) (pss_one (ps_ret (pe_cmpR op_eq (pe_op op_sub (pe_call u_stake_count.ok (hr.mono (by decide)) rfl u_stake_count.g u_stake_count.kp u_stake_count.b .nil pass0 (pa_cons (pv 1) (pa_cons (pv 2) pa_nil))) (pe_call u_stake_count.ok (hr.mono (by decide)) rfl u_stake_count.g u_stake_count.kp u_stake_count.b .nil pass0 (pa_cons (pv 11) (pa_cons (pv 2) pa_nil)))) (pv 8) (nomark _))))))))))), by
    obtain ⟨q, v, fen, often, kk, rfl, hp, hf, hv, hs, k⟩ := h
    obtain ⟨x, y, ht, hx, hy⟩ := hf.tn
    have hfen := valid_fen hv
    have hss := valid_ss hv
    have hlen := hfen.2.2.2.1
    have ht0 := mo_tn _ _ _ _ hole_sub ht
    refine q_tup3 (ev_var rfl) ht0 fun H1 e1 => ?_
    have p1 := hp.mono e1
    have G1 : Ex (hole q H) (hole q H1) := hole_ex (Ex.q e1)
    have hx1 := mo_lr mo_t2 _ _ _ _ (G1.trans hole_sub) hx
    have hy1 := mo_lr mt_n.mo _ _ _ _ (G1.trans hole_sub) hy
    refine q_asgN (R := fun H' v => LR IsN H' v (((List.range fen.2.1.length).filter (fun e => !decide (e ∈ fen.2.2))).map (fun e => e))) (en_lcR (K := K) (S' := IsN) (n := fen.2.1.length) (fun e => !decide (e ∈ fen.2.2)) (fun e => e) mt_n (ea1 (ev_lenL (ev_var rfl) hx1)) (by omega) fun e H2 he e2 => tn_nameIf (fun _ => rfl) (fun u H3 e3 su => ?_) (fun u H3 e3 su _ => er_var rfl (mt_n.mo.at _) su)) fun pr H2 hpr e2 hrest => ?_
    · cases su
      exact et_test (ev_niN (ev_var rfl) (ev_var rfl) (mo_lr mt_n.mo _ _ _ _ (e2.trans e3) hy1))
    rw [List.map_id'] at hrest
    have p2 := p1.mono e2
    have hrest0 : LR IsN H2 (.ref pr) (restM fen.2.1.length fen.2.2) := hrest
    have hrestG := lr_hole mt_n (p1.ne hpr) p2 hrest0
    have x2 : ExQ q H H2 := (Ex.q e1).trans (Ex.q e2)
    refine q_when (et_or (et_test (ev_eqNilN (ev_var rfl) hrest0)) fun _ => et_test (ev_op (ev_lenL (ev_var rfl) (mo_lr mo_t2 _ _ _ _ e2 hx1)) ev_c rv_I0)) (fun hb H3 e3 => ?_) (fun hb H3 e3 => ?_)
    · exact s_ret ev_c fun H4 e4 => k H4 ((x2.trans (Ex.q e3)).trans (Ex.q e4)) (((p2.mono e3).mono e4).less (Nat.le_succ _))
    rw [Bool.or_eq_false_iff] at hb
    have hrne := hb.1
    have h3l : ¬ (fen.2.1.length : Int) < 3 := of_decide_eq_false hb.2
    have h3l : 3 ≤ fen.2.1.length := by omega
    have p3 := p2.mono e3
    have x3 := x2.trans (Ex.q e3)
    have hrest3 := mo_lr mt_n.mo _ _ _ _ (hole_ex (Ex.q e3)) hrestG
    have hrl : 0 < (restM fen.2.1.length fen.2.2).length := by
      cases hc : restM fen.2.1.length fen.2.2 with
      | nil =>
        rw [hc] at hrne
        cases hrne
      | cons _ _ => simp
    have hrl2 : (restM fen.2.1.length fen.2.2).length ≤ 1000 := by
      have := List.length_filter_le (fun e => !decide (e ∈ fen.2.2)) (List.range fen.2.1.length)
      rw [List.length_range] at this
      exact Nat.le_trans this hlen
    have hlb0 : (((restM fen.2.1.length fen.2.2).length : Int)).natAbs ≤ 1000 := by omega
    have hlb : Bd 8000 ((restM fen.2.1.length fen.2.2).length : Int) := Bd.mono (n := 10) (Nat.lt_of_le_of_lt hlb0 (by decide)) (by decide)
    refine sq_asg (m := kk) (c := 0 + 1) (R := DI fun d => ∃ e : Nat, d = (e : Int) ∧ e < fen.2.1.length ∧ e ∉ fen.2.2) (eq_op (Ra := fun G v => LR IsN G v (restM fen.2.1.length fen.2.2)) (Rb := DI fun d => 0 ≤ d ∧ d < ((restM fen.2.1.length fen.2.2).length : Int)) (eq_ev (ev_var rfl) fun G' e' => mo_lr mt_n.mo _ _ _ _ e' hrest3) ((mo_lr mt_n.mo).at _) (eq_draw (ea2 (ev_var rfl) (ev_lenL (ev_var rfl) hrest3)) (by omega) hlb) mo_di fun G u z e hu ⟨d, hd, d0, d1⟩ => ?_) p3 fun v4 H4 x4 p4 r4 => ?_
    · subst hd
      obtain ⟨n, rfl⟩ : ∃ n : Nat, d = (n : Int) := ⟨d.toNat, by omega⟩
      obtain ⟨a, us, rfl, u2, u3⟩ := hu
      have hn : n < (restM fen.2.1.length fen.2.2).length := by omega
      obtain ⟨w1, w2, w3⟩ := u3.at (List.getElem?_eq_getElem hn)
      have hm : (restM fen.2.1.length fen.2.2)[n] ∈ restM fen.2.1.length fen.2.2 := List.getElem_mem _
      have hm2 := List.mem_filter.mp hm
      exact ⟨w1, rv_ixl u2 (atI_nat w2), _, w3, _, rfl, List.mem_range.mp hm2.1, by simpa using hm2.2⟩
    obtain ⟨d, rfl, e, rfl, hel, hes⟩ := r4
    have x04 := x3.trans x4
    have G4 : Ex (hole q H) H4 := (hole_ex x04).trans hole_sub
    have hx4 := mo_lr mo_t2 _ _ _ _ G4 hx
    have hy4 := mo_lr mt_n.mo _ _ _ _ G4 hy
    have hf4 := mo_fen _ _ _ _ G4 hf
    have hsd : e < sidesN fen.2.1.length := by rw [sidesN, if_pos (by omega)]; exact hel
    refine q_asg (ev_er (er_use (fen, e, often) (ea3 (ev_var rfl) (ev_var rfl) (ev_var rfl)) fun H5 e5 => ⟨v, rfl, mo_fen _ _ _ _ e5 hf4, hv, hs, hsd⟩)) fun H5 e5 => ?_
    have hne : (fen.2.1.length : Int) ≠ 0 := by omega
    have hpos : 0 < fen.2.1.length := by omega
    have e04 : ∀ {H' : Hp}, Ex H4 H' → Ex (hole q H) H' := fun e => G4.trans e
    let L0 : Int := sideM fen.1 (scaleM often fen.2.1) e
    refine q_forRT (n := 2) (S := fun H' xs => ∃ a b, xs = [a, b] ∧ TN H' a [.int (e : Int), .int ((e : Int) - 1)] ∧ TN H' b [.int ((e : Int) + 1), .int ((e : Int) + 1)]) (er_pair (er_tn (ea2 (ev_var rfl) (ev_op (ev_var rfl) ev_c rv_I0)) (by simp)) (er_tn (ea2 (ev_op (ev_var rfl) ev_c rv_I0) (ev_op (ev_var rfl) ev_c rv_I0)) (by simp))) (fun ta xs i σ' H' => H' ta = some (.tup xs) ∧ Ex H5 H' ∧ xs.length = 2 ∧ (∀ j u, xs[j]? = some u → TN H' u [.int (if j = 0 then (e : Int) else (e : Int) + 1), .int (if j = 0 then (e : Int) - 1 else (e : Int) + 1)]) ∧ ∃ (x9 x10 : Option V), σ' = [some (.ref q), some v, some (.int often), some (.int fen.1), some x, some y, some (.ref pr), some (.int (e : Int)), some (.int (L0 - (if 0 < i then lostAt fen often e 0 else 0) - (if 1 < i then lostAt fen often e 1 else 0))), x9, x10, none]) ?_ (fun ta xs i σ' H' pv => st_of pv.1) ?_ ?_
    · rintro ta xs H6 e6 hta hxl ⟨a, b, rfl, ha, hb⟩
      refine ⟨hta, e6, rfl, fun j u hj => ?_, none, none, by simp; rfl⟩
      match j, hj with
      | 0, hj =>
        cases hj
        exact ha
      | 1, hj =>
        cases hj
        exact hb
    · rintro ta xs i u σ' H6 hxl hu ⟨hta, e6, _, hel2, x9, x10, rfl⟩
      have hi2 : i < 2 := by
        have := (List.getElem?_eq_some_iff.mp hu).1
        omega
      obtain ⟨ua, rfl, hua⟩ := hel2 i u hu
      refine ⟨ua, _, rfl, st_of hua, rfl, _, _, rfl, _, _, rfl, rfl, ?_⟩
      have e46 := e5.trans e6
      have hx6 := mo_lr mo_t2 _ _ _ _ (e04 e46) hx
      have hy6 := mo_lr mt_n.mo _ _ _ _ (e04 e46) hy
      have hbe : (if i = 0 then (e : Int) - 1 else (e : Int) + 1).fmod (fen.2.1.length : Int) = ((besideM fen.2.1.length e i : Nat) : Int) := by
        unfold besideM
        split
        · exact fmod_prev hpos
        · exact fmod_next hpos
      have hsp : (if i = 0 then (e : Int) else (e : Int) + 1).fmod (fen.2.1.length : Int) = ((spotM fen.2.1.length e i : Nat) : Int) := by
        unfold spotM
        split
        · rw [Int.fmod_eq_emod_of_nonneg _ (by omega)]
          rfl
        · exact fmod_next hpos
      have hspl : spotM fen.2.1.length e i < fen.2.1.length := by
        unfold spotM
        split <;> exact Nat.mod_lt _ hpos
      refine s_when (b := (decide (besideM fen.2.1.length e i ∈ fen.2.2) && lawStake fen.1 fen.2.1 often (spotM fen.2.1.length e i))) (et_and (et_test (ev_inN (v := y) (by rw [← hbe]; exact ev_op (ev_intI (ev_var rfl)) (ev_lenL (ev_var rfl) hx6) (rv_I hne)) (ev_var rfl) hy6)) fun _ => et_B (ev_er (er_use (fen, often, spotM fen.2.1.length e i) (ea3 (ev_var rfl) (ev_var rfl) (by rw [← hsp]; exact ev_op (ev_intI (ev_var rfl)) (ev_lenL (ev_var rfl) hx6) (rv_I hne))) fun H7 e7 => ⟨v, rfl, mo_fen _ _ _ _ (e04 (e46.trans e7)) hf, hv, hs, hspl⟩))) (fun hb H7 e7 => ?_) (fun hb H7 e7 => ?_)
      · have hlo : lostAt fen often e i = 1 := by
          unfold lostAt
          rw [if_pos hb]
        refine s_asg (ev_op (ev_var rfl) ev_c rv_I0) fun H8 e8 => ⟨(e7.trans e8) _ _ hta, (e6.trans e7).trans e8, hxl, fun j u hj => mo_tn _ _ _ _ (e7.trans e8) (hel2 j u hj), some (.int (if i = 0 then (e : Int) else (e : Int) + 1)), some (.int (if i = 0 then (e : Int) - 1 else (e : Int) + 1)), ?_⟩
        match i, hi2, hlo with
        | 0, _, hlo => simp [hlo]
        | 1, _, hlo => simp [hlo]
      · have hlo : lostAt fen often e i = 0 := by
          unfold lostAt
          rw [if_neg (by rw [hb]; decide)]
        refine ⟨e7 _ _ hta, e6.trans e7, hxl, fun j u hj => mo_tn _ _ _ _ e7 (hel2 j u hj), some (.int (if i = 0 then (e : Int) else (e : Int) + 1)), some (.int (if i = 0 then (e : Int) - 1 else (e : Int) + 1)), ?_⟩
        match i, hi2, hlo with
        | 0, _, hlo => simp [hlo]
        | 1, _, hlo => simp [hlo]
    · rintro ta xs σ' H6 ⟨hta, e6, _, _, x9, x10, rfl⟩
      have e46 := e5.trans e6
      have hx6 := mo_lr mo_t2 _ _ _ _ (e04 e46) hx
      have hy6 := mo_lr mt_n.mo _ _ _ _ (e04 e46) hy
      refine q_asgR (R := fun H' u => ∃ ss' : List Nat, ss'.Perm (fen.2.2 ++ [e]) ∧ ss'.Pairwise (· < ·) ∧ FenV H' u (fen.1, fen.2.1, ss')) ?_ fun wv H7 e7 r7 => ?_
      · intro H7 e7 Q7 q7
        refine er_fenX (Rx := fun H' u => ∃ ss' : List Nat, ss'.Perm (fen.2.2 ++ [e]) ∧ ss'.Pairwise (· < ·) ∧ LR IsN H' u ss') (ev_var rfl) (er_var rfl ((mo_lr mo_t2).at _) hx6) (fun H8 e8 Q8 q8 => ?_) (fun H' H'' u e8 ⟨ss', g1, g2, g3⟩ => ⟨ss', g1, g2, mo_lr mt_n.mo _ _ _ _ e8 g3⟩) H7 e7 Q7 fun u H8 e8 ⟨a, y1, z1, g1, g2, g3, ss', g4, g5, g6⟩ => q7 u H8 e8 ⟨ss', g4, g5, a, y1, z1, g1, g2, g3, g6⟩
        refine er_cat (S := IsN) (xs := fen.2.2) (ys := [e]) mt_n.mo (er_var rfl ((mo_lr mt_n.mo).at _) (mo_lr mt_n.mo _ _ _ _ e8 hy6)) (er_oneN (ev_var rfl)) (by have := valid_len hv; rw [List.length_singleton]; omega) H8 (Ex.refl _) _ fun u H9 e9 hu => ?_
        obtain ⟨a, rfl, ha⟩ := hu.nats
        have ha2 : ((fen.2.2 ++ [e]).map fun n : Nat => V.int (n : Int)) = (((fen.2.2 ++ [e]).map fun n : Nat => (n : Int)).map V.int) := by rw [List.map_map]; rfl
        rw [ha2] at ha
        refine ⟨a, _, rfl, sq_of ha, ?_, fun ns p hp1 hp2 hp3 => ?_⟩
        · rw [List.length_map, List.length_append, List.length_singleton]
          have h1 := asc_len fen.2.2 0 hv.2.2.2.1 fun s hs => ⟨Nat.zero_le _, hss s hs⟩
          have h2 := hv.2.2.1.2.1
          omega
        · obtain ⟨ss', g1, g2, g3⟩ := sort_more hp1 hp2 hv.2.2.2.1 hes
          refine q8 _ _ (e9.trans (Ex.new hp3)) ⟨ss', g2, g3, LR.of_nats ?_⟩
          rw [upd_same, g1, List.map_map]
          rfl
      · obtain ⟨ss', g1, g2, g3⟩ := r7
        have hvw : Valid (fen.1, fen.2.1, ss') := valid_with hv g2 fun s hsm => by
          rcases List.mem_append.mp (g1.mem_iff.mp hsm) with h | h
          · exact hv.2.2.2.2 s h
          · rw [List.mem_singleton] at h
            rw [h]
            exact hsd
        have hM := MORE fen often e ss' hv hs h3l hel hes g1 g2
        refine s_ret (ev_is (ev_op (ev_op (ev_er (er_use (fen, often) (ea2 (ev_var rfl) (ev_var rfl)) fun H8 e8 => ⟨v, rfl, mo_fen _ _ _ _ (e04 ((e46.trans e7).trans e8)) hf, hv, hs⟩)) (ev_er (er_use ((fen.1, fen.2.1, ss'), often) (ea2 (ev_var rfl) (ev_var rfl)) fun H8 e8 => ⟨wv, rfl, mo_fen _ _ _ _ e8 g3, hvw, hs⟩)) rv_I0) (ev_var rfl) rv_eqI) (w := .bl true) ?_) fun H8 e8 => k H8 (((((x3.trans x4).trans (Ex.q e5)).trans (Ex.q e6)).trans (Ex.q e7)).trans (Ex.q e8)) ((((p4.mono e5).mono e6).mono e7).mono e8)
        have hM2 : countM fen often none - countM (fen.1, fen.2.1, ss') often none = L0 - (if 0 < 2 then lostAt fen often e 0 else 0) - (if 1 < 2 then lostAt fen often e 1 else 0) := hM
        exact congrArg V.bl (decide_eq_true hM2)⟩)
end
end GF
set_option Elab.async false
set_option linter.all false
set_option maxRecDepth 100000
set_option maxHeartbeats 1000000
set_option exponentiation.threshold 100000
namespace GF
open PySem PySem.Spec PyProof.Rows L2 Evl
section
variable {P : Program} {w : World} {K : PySem.W.Frag} {mg : Str → Option Value} {base : Heap} {f : Addr} {fd : FuncData}
/-- x, y = e, drawn -/
theorem sq_asg2 {q : Addr} {m c i j : Nat} {te : TE} {σ : L2.St} {H : Hp} {S : Hp → V → V → Prop} {tz : TS} {D : Ends} (h : EQ q c te σ (hole q H) (fun G v => ∃ x y, TN G v [x, y] ∧ S G x y)) (p : Pool H q (m + c)) (k : ∀ x y H1, ExQ q H H1 → Pool H1 q m → S (hole q H1) x y → tz D ((σ.set i (some x)).set j (some y)) H1) : tSeq (tAsg te (gTup K 2 (gCons (gName i) (gCons (gName j) gNil)))) tz D σ H :=
  h m H (Ex.refl _) p (fun v H1 => gTup K 2 (gCons (gName i) (gCons (gName j) gNil)) v σ H1 (tz D)) fun v H1 e1 p1 ⟨x, y, ⟨a, h1, h2⟩, hs⟩ => ⟨a, [x, y], h1, st_of (hole_sub _ _ h2), rfl, x, [y], rfl, y, [], rfl, rfl, k x y H1 e1 p1 hs⟩
theorem inV_false (bs : List Bool) : inV (.bl false) (bs.map V.bl) = !bs.all id := by
  unfold inV
  rw [List.any_map]
  induction bs with
  | nil => rfl
  | cons b r ih =>
    rw [List.any_cons, ih, List.all_cons]
    show ((b == false) || !r.all id) = !(b && r.all id)
    cases b <;> simp
theorem ev_niB {ta tb : TE} {σ : L2.St} {H : Hp} {v : V} {bs : List Bool} (h : Ev ta σ H (.bl false)) (h2 : Ev tb σ H v) (hl : LR IsB H v bs) : Ev (tOp (rIn K true) ta tb) σ H (.bl (bs.all id)) := by
  obtain ⟨a, rfl, ha⟩ := hl.bls
  have hf : (bs.map V.bl).all flatV = true := by
    rw [List.all_map, List.all_eq_true]
    exact fun _ _ => rfl
  refine ev_is (ev_op h h2 (rv_niL (sq_of ha) rfl hf)) ?_
  rw [inV_false, Bool.not_not]
def spSpots : Sp := fun vs H Q _ => ∃ (q : Addr) (v : V) (fen : Fen) (often : Int) (k : Nat), vs = [.ref q, v, .int often] ∧ Pool H q (k + 6) ∧ FenV (hole q H) v fen ∧ Valid fen ∧ SzOk often ∧ ∀ H', ExQ q H H' → Pool H' q k → Q (.bl true) H'
theorem sc_law_spots_right : FnScope ["_law_pool_here", "_law_plot_here", "_law_often", "_law_low", "_law_corners_here", "_law_shut", "_law_turn_here", "_law_x", "_law_y", "_law_spot", "_law_alone", "_law_edge", "_law_due"] ["_law_pool_here", "_law_plot_here", "_law_often"] (defScope s_law_spots_right) := ⟨rfl, rfl, rfl, by decide +kernel, rfl, by decide +kernel, by decide +kernel⟩
theorem ok_spots (HOLDS : LawHolds) (F : FnP K "_law_spots_right" s_law_spots_right f fd) (N : Nm mg) {f1 f2 : Addr} {fd1 fd2 : FuncData} (u_law_draw : Use P w K mg base "_law_draw" 1 ["_law_pool_here", "_law_span"] spDraw f1 fd1) (u_holds_stake : Use P w K mg base "holds_stake" 8 ["fence", "size", "point"] spHoldsC f2 fd2) :
    FnOk P w K mg base CX0 10 f fd ["_law_pool_here", "_law_plot_here", "_law_often"] spSpots :=
  F.ok sc_law_spots_right (fun _ _ _ _ ⟨_, _, _, _, _, h, _⟩ => by rw [h]; rfl) (fun cdv A outer s H vs Q E hr h => ⟨_, PSs.nox (pss_cons (ps_asg (pv 1) (pg_tup rfl (pgs_cons (pg_name (i := 3) sc_law_spots_right.nd rfl (Or.inr rfl)) (pgs_cons (pg_name (i := 4) sc_law_spots_right.nd rfl (Or.inr rfl)) (pgs_cons (pg_name (i := 5) sc_law_spots_right.nd rfl (Or.inl rfl)) pgs_nil))))) (pss_cons (ps_for PassesOwn.never rfl (pi_range1 rfl N.range (pa_cons pe_int pa_nil)) (pg_name (i := 6) sc_law_spots_right.nd rfl (Or.inl rfl)) (pss_cons (ps_asg (pe_ix ix_seq (pv 4) (pe_call u_law_draw.ok (hr.mono (by decide)) rfl u_law_draw.g u_law_draw.kp u_law_draw.b .nil pass0 (pa_cons (pv 0) (pa_cons (pe_callB call_len_seq (by rfl) N.len (by decide +kernel) (pa_cons (pv 4) pa_nil)) pa_nil))) (fun _ _ => rfl)) (pg_tup rfl (pgs_cons (pg_name (i := 7) sc_law_spots_right.nd rfl (Or.inl rfl)) (pgs_cons (pg_name (i := 8) sc_law_spots_right.nd rfl (Or.inl rfl)) pgs_nil)))) (pss_cons (ps_set (i := 9) sc_law_spots_right.nd rfl (Or.inr rfl) (pe_tup (pa_cons (pe_op op_add (pe_op op_fdivX (pe_op op_mulW (pv 2) (pv 7)) (pv 3)) (pe_call u_law_draw.ok (hr.mono (by decide)) rfl u_law_draw.g u_law_draw.kp u_law_draw.b .nil pass0 (pa_cons (pv 0) (pa_cons pe_int pa_nil)))) (pa_cons (pe_op op_add (pe_op op_fdivX (pe_op op_mulW (pv 2) (pv 8)) (pv 3)) (pe_call u_law_draw.ok (hr.mono (by decide)) rfl u_law_draw.g u_law_draw.kp u_law_draw.b .nil pass0 (pa_cons (pv 0) (pa_cons pe_int pa_nil)))) pa_nil)))) (pss_cons (ps_setLc (i := 10) (own := [("_law_edge", 11)]) (g := gName 11) rfl sc_law_spots_right.nd rfl rfl (sw_true rfl rfl rfl (by decide +kernel)) (pi_list (pv 5)) (blkOk_by (own := [("_law_edge", 11)]) (N := ["_law_pool_here", "_law_plot_here", "_law_often", "_law_low", "_law_corners_here", "_law_shut", "_law_turn_here", "_law_x", "_law_y", "_law_spot", "_law_alone", "_law_edge", "_law_due"]) (sc := defScope s_law_spots_right) (by decide +kernel)) (fun _ _ _ _ _ => (pg_name (i := 11) sc_law_spots_right.nd rfl (Or.inl rfl))) (fun _ _ _ _ _ => pts_nil) (fun _ _ _ _ _ => (pe_call u_holds_stake.ok (hr.mono (by decide)) rfl u_holds_stake.g u_holds_stake.kp u_holds_stake.b .nil pass0 (pa_cons (pe_tup (pa_cons (pv 3) (pa_cons (pv 4) (pa_cons (pe_lst (pa_cons (pv 11) pa_nil)) pa_nil)))) (pa_cons (pv 2) (pa_cons (pv 9) pa_nil)))))) (pss_cons (ps_set (i := 12) sc_law_spots_right.nd rfl (Or.inl rfl) (pe_and (pe_call u_holds_stake.ok (hr.mono (by decide)) rfl u_holds_stake.g u_holds_stake.kp u_holds_stake.b .nil pass0 (pa_cons (pe_tup (pa_cons (pv 3) (pa_cons (pv 4) (pa_cons (pe_lst pa_nil) pa_nil)))) (pa_cons (pv 2) (pa_cons (pv 9) pa_nil)))) (pe_one (pe_cmpR op_notIn_seq pe_bl (pv 10) (by rfl))))) (pss_one (ps_if (pt_cmpR op_ne (pe_call u_holds_stake.ok (hr.mono (by decide)) rfl u_holds_stake.g u_holds_stake.kp u_holds_stake.b .nil pass0 (pa_cons (pv 1) (pa_cons (pv 2) (pa_cons (pv 9) pa_nil)))) (pv 12) (nomark _)) (pss_one (ps_ret pe_bl)) pss_nil))))))) (pss_one (ps_ret pe_bl)))), by
    obtain ⟨q, v, fen, often, kk, rfl, hp, hf, hv, hs, k⟩ := h
    obtain ⟨x, y, ht, hx, hy⟩ := hf.tn
    have hfen := valid_fen hv
    have hb0 : fen.1 ≠ 0 := by have := hfen.1; omega
    have hob := size_bd hs (n := 100) (by decide)
    have hlb0 : ((fen.2.1.length : Int)).natAbs ≤ 1000 := by have := hfen.2.2.2.1; omega
    have hlb : Bd 8000 (fen.2.1.length : Int) := Bd.mono (n := 10) (Nat.lt_of_le_of_lt hlb0 (by decide)) (by decide)
    have hl1 := hfen.2.2.1
    have hz := valid_len hv
    have ht0 := mo_tn _ _ _ _ hole_sub ht
    refine q_tup3 (ev_var rfl) ht0 fun H1 e1 => ?_
    refine q_forR1 (n := 2) (ea1 ev_c) (by decide) (fun i σ' H' => ExQ q H H' ∧ Pool H' q (kk + 3 * (2 - i)) ∧ ∃ x6 x7 x8 x9 x10 x11 x12 : Option V, σ' = [some (.ref q), some v, some (.int often), some (.int fen.1), some x, some y, x6, x7, x8, x9, x10, x11, x12]) (fun H2 e2 => ⟨(Ex.q e1).trans (Ex.q e2), (hp.mono e1).mono e2, _, _, _, _, _, _, _, rfl⟩) ?_ ?_
    · rintro i σ' H2 hi ⟨x2, p2, x6, x7, x8, x9, x10, x11, x12, rfl⟩
      have hi2 : i < 2 := by omega
      have p2' : Pool H2 q (kk + 3 * (2 - (i + 1)) + 2 + (0 + 1)) := by
        have e : kk + 3 * (2 - (i + 1)) + 2 + (0 + 1) = kk + 3 * (2 - i) := by omega
        rw [e]
        exact p2
      have hx2 := mo_lr mo_t2 _ _ _ _ (hole_ex x2) hx
      refine sq_asg2 (m := kk + 3 * (2 - (i + 1)) + 2) (c := 0 + 1) (S := fun G u z => ∃ p ∈ fen.2.1, u = .int p.1 ∧ z = .int p.2) (eq_op (Ra := fun G v => LR T2 G v fen.2.1) (Rb := DI fun d => 0 ≤ d ∧ d < (fen.2.1.length : Int)) (eq_ev (ev_var rfl) fun G' e' => mo_lr mo_t2 _ _ _ _ e' hx2) ((mo_lr mo_t2).at _) (eq_draw (ea2 (ev_var rfl) (ev_lenL (ev_var rfl) hx2)) (by omega) hlb) (fun _ _ _ e ⟨u, z, h1, h2⟩ => ⟨u, z, mo_tn _ _ _ _ e h1, h2⟩) fun G u z e hu ⟨d, hd, d0, d1⟩ => ?_) p2' fun ux uy H3 x3 p3 ⟨p, hpm, hpx, hpy⟩ => ?_
      · subst hd
        obtain ⟨n, rfl⟩ : ∃ n : Nat, d = (n : Int) := ⟨d.toNat, by omega⟩
        obtain ⟨a, us, rfl, u2, u3⟩ := hu
        have hn : n < fen.2.1.length := by omega
        obtain ⟨w1, w2, w3⟩ := u3.at (at_get hn)
        exact ⟨w1, rv_ixl u2 (atI_nat w2), _, _, w3, at_ fen.2.1 n, mem_at hn, rfl, rfl⟩
      subst hpx
      subst hpy
      have hpb := bd_place (hv.2.2.1.2.2.1 p hpm)
      have b2 : Bd 8000 (2 : Int) := Bd.two.mono (by decide)
      have fact : ∀ (c d : Int), Bd 100 c → 0 ≤ d ∧ d < 2 → Bd 700 ((often * c).fdiv fen.1 + d) := fun c d hc hd => by
        have hd1 : Bd 1 d := by
          unfold Bd
          have : d.natAbs ≤ 1 := by omega
          omega
        exact ((hob.mul hc).fdiv.add hd1).mono (by decide)
      refine sq_asg (m := kk + 3 * (2 - (i + 1))) (c := (0 + 1) + (0 + 1)) (R := fun G u => ∃ s : Pt, T2 G u s ∧ BdP 700 s) ((eq_tup2 (Ra := DI fun d => Bd 700 d) (Rb := DI fun d => Bd 700 d) (eq_opI (g := fun i j => i + j) (P1 := fun i => i = (often * p.1).fdiv fen.1) (P2 := fun d => 0 ≤ d ∧ d < 2) (eq_int (ev_op (ev_op (ev_var rfl) (ev_var rfl) (rv_I (cmulB hob hpb.1 (by decide)))) (ev_var rfl) (rv_I (cdivB hb0 hfen.2.1 (by decide)))) rfl) (eq_draw (ea2 (ev_var rfl) ev_c) (by decide) b2) (fun a d h1 h2 => by subst h1; exact fact _ _ hpb.1 h2)) mo_di
        (eq_opI (g := fun i j => i + j) (P1 := fun i => i = (often * p.2).fdiv fen.1) (P2 := fun d => 0 ≤ d ∧ d < 2) (eq_int (ev_op (ev_op (ev_var rfl) (ev_var rfl) (rv_I (cmulB hob hpb.2 (by decide)))) (ev_var rfl) (rv_I (cdivB hb0 hfen.2.1 (by decide)))) rfl) (eq_draw (ea2 (ev_var rfl) ev_c) (by decide) b2) (fun a d h1 h2 => by subst h1; exact fact _ _ hpb.2 h2)) mo_di).imp fun G' u _ ⟨ux, uy, h1, ⟨a, ha1, ha2⟩, ⟨b, hb1, hb2⟩⟩ => ?_) p3 fun us H4 x4 p4 ⟨s, hts, hsb⟩ => ?_
      · subst ha1
        subst hb1
        exact ⟨(a, b), h1, ha2, hb2⟩
      have x04 := (x2.trans x3).trans x4
      have G4 : Ex (hole q H) H4 := (hole_ex x04).trans hole_sub
      have hx4 := mo_lr mo_t2 _ _ _ _ G4 hx
      have hy4 := mo_lr mt_n.mo _ _ _ _ G4 hy
      have hf4 := mo_fen _ _ _ _ G4 hf
      have ts4 := mo_t2 _ _ _ _ hole_sub hts
      refine q_asgR (R := fun H' u => LR IsB H' u (fen.2.2.map fun e => holdsM fen.1 (scaleM often fen.2.1) [e] s)) ?_ fun ua H5 e5 ra => ?_
      · rw [← fil_true fen.2.2]
        refine er_lc (S := IsN) (S' := IsB) (xs := fen.2.2) (fun _ => true) (fun e => holdsM fen.1 (scaleM often fen.2.1) [e] s) mt_n.mo mt_bl (er_var rfl ((mo_lr mt_n.mo).at _) hy4) (by omega) fun e H5 he e5 => tn_name (fun _ => rfl) fun u H6 e6 su => ?_
        cases su
        have e46 := e5.trans e6
        have hve : Valid (fen.1, fen.2.1, [e]) := valid_with hv (by simp) fun s hs => by
          rw [List.mem_singleton] at hs
          rw [hs]
          exact hv.2.2.2.2 e he
        refine (er_call (α := Fen × Int × Pt) ((fen.1, fen.2.1, [e]), often, s) (ar_cons (er_fen3 (ev_var rfl) (er_var rfl ((mo_lr mo_t2).at _) (mo_lr mo_t2 _ _ _ _ e46 hx4)) (er_oneN (ev_var rfl))) (mo_fen.at _) (ar_cons (er_is (ev_var rfl)) mo_is (ar_cons (er_var rfl (mo_t2.at s) (mo_t2 _ _ _ _ e46 ts4)) (mo_t2.at s) ar_nil))) ?_)
        rintro H7 vs e7 ⟨u, _, rfl, hu, v2, _, rfl, rfl, v3, _, rfl, h3, rfl⟩
        exact ⟨u, v3, rfl, hu, hve, hs, h3, hsb⟩
      have hx5 := mo_lr mo_t2 _ _ _ _ e5 hx4
      have ts5 := mo_t2 _ _ _ _ e5 ts4
      refine q_asg (v := .bl (holdsM fen.1 (scaleM often fen.2.1) [] s && (fen.2.2.map fun e => holdsM fen.1 (scaleM often fen.2.1) [e] s).all id)) (ev_andV (ev_er ((er_call (α := Fen × Int × Pt) ((fen.1, fen.2.1, []), often, s) (ar_cons (er_fen3 (ev_var rfl) (er_var rfl ((mo_lr mo_t2).at _) hx5) er_nilN) (mo_fen.at _) (ar_cons (er_is (ev_var rfl)) mo_is (ar_cons (er_var rfl (mo_t2.at s) ts5) (mo_t2.at s) ar_nil))) ?_))) fun _ => ev_niB ev_c (ev_var rfl) ra) fun H6 e6 => ?_
      · rintro H7 vs e7 ⟨u, _, rfl, hu, v2, _, rfl, rfl, v3, _, rfl, h3, rfl⟩
        exact ⟨u, v3, rfl, hu, valid_nil hv, hs, h3, hsb⟩
      have hH := HOLDS fen often s hv hs
      have hall : (fen.2.2.map fun e => holdsM fen.1 (scaleM often fen.2.1) [e] s).all id = fen.2.2.all fun e => holdsM fen.1 (scaleM often fen.2.1) [e] s := by
        rw [List.all_map]
        rfl
      refine s_when (b := false) (et_is (et_test (ev_op (ev_er (er_use (fen, often, s) (ea3 (ev_var rfl) (ev_var rfl) (ev_var rfl)) fun H7 e7 => ⟨v, us, rfl, mo_fen _ _ _ _ ((e5.trans e6).trans e7) hf4, hv, hs, mo_t2 _ _ _ _ (e6.trans e7) ts5, hsb⟩)) (ev_var rfl) (rv_ne rfl))) ?_) (fun z => by cases z) (fun _ H7 e7 => ⟨((x04.trans (Ex.q e5)).trans (Ex.q e6)).trans (Ex.q e7), ((p4.mono e5).mono e6).mono e7, _, _, _, _, _, _, _, rfl⟩)
      rw [hall, ← hH]
      simp
    · rintro σ' H2 ⟨x2, p2, x6, x7, x8, x9, x10, x11, x12, rfl⟩
      exact s_ret ev_c fun H3 e3 => k H3 (x2.trans (Ex.q e3)) (p2.mono e3)⟩)
def spRight : Sp := fun vs H Q _ => ∃ (q : Addr) (v : V) (fen : Fen) (often : Int) (k : Nat), vs = [.ref q, v, .int often] ∧ Pool H q (k + 7) ∧ FenV (hole q H) v fen ∧ Valid fen ∧ SzOk often ∧ ∀ H', ExQ q H H' → Pool H' q k → Q (.bl true) H'
theorem ss_every (n : Nat) : (if n > 1 then List.range n else []).Pairwise (· < ·) ∧ ∀ s ∈ (if n > 1 then List.range n else []), s < sidesN n := by
  by_cases h : n > 1
  · rw [if_pos h, sidesN, if_pos h]
    exact ⟨List.pairwise_lt_range, fun s hs => List.mem_range.mp hs⟩
  · rw [if_neg h]
    exact ⟨List.Pairwise.nil, fun s hs => by cases hs⟩
theorem er_rng {te : TE} {σ : L2.St} {H : Hp} {n : Nat} (h : Ev te σ H (.int (n : Int))) (hn : n ≤ 10000) : ER (tLstRg (tRg1 te)) σ H (fun G' v => LR IsN G' v (List.range n)) := fun H1 e Q k =>
  h H1 e _ fun H2 e2 => ⟨n, rfl, RgOk.of_le (by omega) (by omega) (by omega) (by omega), fun t ht => k _ _ (e2.trans (Ex.new ht)) ⟨t, _, rfl, upd_same, by
    have e3 : rgV 0 (n : Int) = (List.range n).map fun i : Nat => V.int (i : Int) := by
      unfold rgV
      rw [Int.sub_zero, Int.toNat_natCast]
      refine List.map_congr_left fun i _ => ?_
      rw [Int.zero_add]
    rw [e3]
    refine ⟨by rw [List.length_map], fun i v x h1 h2 => ?_⟩
    rw [List.getElem?_map, h2] at h1
    cases h1
    rfl⟩⟩
end
end GF
set_option Elab.async false
set_option linter.all false
set_option maxRecDepth 100000
set_option maxHeartbeats 1000000
set_option exponentiation.threshold 100000
namespace GF
open PySem PySem.Spec PyProof.Rows L2 Evl
section
variable {P : Program} {w : World} {K : PySem.W.Frag} {mg : Str → Option Value} {base : Heap} {f : Addr} {fd : FuncData}
theorem maxL_bd {n : Nat} {ns : List Int} (h : 0 < ns.length) (hb : ∀ x ∈ ns, Bd n x) : Bd n (maxL ns) := hb _ (maxL_ok ns h).1
theorem box_bd {q : Fen} {often : Int} (hv : Valid q) (hs : SzOk often) : Bd 700 (boxAt q.1 q.2.1 often 1).2 := by
  have hfen := valid_fen hv
  refine Bd.mono (n := 200) (Bd.fdiv (maxL_bd (by rw [List.length_map]; exact hfen.2.2.1) fun x hx => ?_)) (by decide)
  obtain ⟨p, hp, rfl⟩ := List.mem_map.mp hx
  have hpb := bd_place (hv.2.2.1.2.2.1 p hp)
  have hcb : Bd 100 (coord 1 p) := hpb.2
  exact (size_bd hs (n := 100) (by decide)).mul hcb
/-- stake_count of a fence that is made on the way -/
theorem ev_countX {te ts : TE} {σ : L2.St} {H : Hp} {E : XK} {q : Fen} {size : Int} (h : ER te σ H (fun H' v => FenV H' v q)) (g : Ev ts σ H (.int size)) (hv : Valid q) (hs : SzOk size) : Ev (tCall spCount [] E (tCons te (tCons ts tNil))) σ H (.int (countM q size none)) :=
  ev_er ((er_call (α := Fen × Int) (q, size) (ar_cons h (mo_fen.at _) (ar_cons (er_is g) mo_is ar_nil)) fun H7 vs e7 ⟨u, _, e1, hu, v2, _, e2, e3, e4⟩ => by
    subst e4
    subst e2
    subst e1
    cases e3
    exact ⟨u, rfl, hu, hv, hs⟩).imp fun _ _ _ h => h)
theorem s_retAnd {ta tb : TE} {σ : L2.St} {H : Hp} {D : Ends} {X : Hp → Prop} (h : ∀ Q' : VK, (∀ H', X H' → Q' (.bl true) H') → ta σ H Q') (g : ∀ H', X H' → tb σ H' D.rt) : tRet (tAndV ta tb) D σ H := h (fun x H1 => ∃ c, x = .bl c ∧ if c = true then tb σ H1 D.rt else D.rt (.bl false) H1) fun H' hx => ⟨true, rfl, by rw [if_pos rfl]; exact g H' hx⟩
theorem callX {sp : Sp} {E : XK} {ta : TA} {σ : L2.St} {H : Hp} {vs : List V} {Q : VK} (h : EvA ta σ H vs) (k : ∀ H1, Ex H H1 → sp vs H1 Q E) : tCall sp [] E ta σ H Q := h H (Ex.refl _) (fun vs H1 => sp (vs ++ []) H1 Q E) fun H1 e => by
  rw [List.append_nil]
  exact k H1 e
theorem sq_call {sp : Sp} {E : XK} {ta : TA} {σ : L2.St} {H : Hp} {vs : List V} {i : Nat} {tz : TS} {D : Ends} (h : EvA ta σ H vs) (k : ∀ H1, Ex H H1 → sp vs H1 (fun v H2 => gName i v σ H2 (tz D)) E) : tSeq (tAsg (tCall sp [] E ta) (gName i)) tz D σ H := callX (Q := fun v H2 => gName i v σ H2 (tz D)) h k
/-- e[n][m] of a list of points -/
theorem ev_ixLT {te : TE} {σ : L2.St} {H : Hp} {ps : List Pt} {p : Pt} {n m : Nat} {v : V} (h : ER te σ H (fun H' v => LR T2 H' v ps)) (hn : ps[n]? = some p) (hm : atI [V.int p.1, V.int p.2] (m : Int) = some v) : Ev (tOp (rIx K) (tOp (rIx K) te (tC (.int (n : Int)))) (tC (.int (m : Int)))) σ H v := fun H1 e Q q =>
  h H1 e _ fun u H2 e2 ⟨a, vs, ev, h2, h3⟩ => by
    subst ev
    obtain ⟨w1, w2, ⟨b, hb, hb2⟩⟩ := h3.at hn
    subst hb
    exact rv_ixl h2 (atI_nat w2) H2 (Ex.refl _) _ fun H3 e3 => rv_ixt (e3 _ _ hb2) hm H3 (Ex.refl _) Q fun H4 e4 => q H4 ((e2.trans e3).trans e4)
theorem sc_law_right : FnScope ["_law_pool_here", "_law_plot_here", "_law_often", "_law_low", "_law_corners_here", "_law_shut", "_law_closed", "_law_every", "_law_level"] ["_law_pool_here", "_law_plot_here", "_law_often"] (defScope s_law_right) := ⟨rfl, rfl, rfl, by decide +kernel, rfl, by decide +kernel, by decide +kernel⟩
theorem ok_right (BELOW : LawBelow) (OPEN : LawOpen) (F : FnP K "_law_right" s_law_right f fd) (N : Nm mg) {f1 f2 f3 f4 f5 f6 : Addr} {fd1 fd2 fd3 fd4 fd5 fd6 : FuncData} (u_stake_count : Use P w K mg base "stake_count" 9 ["fence", "size"] spCount f1 fd1) (u_law_on_open : Use P w K mg base "_law_on_open" 9 ["_law_plot_here", "_law_often"] spOpen f2 fd2) (u_law_box : Use P w K mg base "_law_box" 1 ["_law_plot_here", "_law_often"] spBox f3 fd3)
    (u_below_count : Use P w K mg base "below_count" 8 ["fence", "size", "row"] spBelowC f4 fd4) (u_law_one_more_right : Use P w K mg base "_law_one_more_right" 10 ["_law_pool_here", "_law_plot_here", "_law_often"] spOne f5 fd5) (u_law_spots_right : Use P w K mg base "_law_spots_right" 10 ["_law_pool_here", "_law_plot_here", "_law_often"] spSpots f6 fd6) :
    FnOk P w K mg base CX0 11 f fd ["_law_pool_here", "_law_plot_here", "_law_often"] spRight :=
  F.ok sc_law_right (fun _ _ _ _ ⟨_, _, _, _, _, h, _⟩ => by rw [h]; rfl) (fun cdv A outer s H vs Q E hr h => ⟨_, PSs.nox (pss_cons (ps_asg (pv 1) (pg_tup rfl (pgs_cons (pg_name (i := 3) sc_law_right.nd rfl (Or.inl rfl)) (pgs_cons (pg_name (i := 4) sc_law_right.nd rfl (Or.inl rfl)) (pgs_cons (pg_name (i := 5) sc_law_right.nd rfl (Or.inl rfl)) pgs_nil))))) (pss_cons (ps_set (i := 6) sc_law_right.nd rfl (Or.inl rfl) (pe_call u_stake_count.ok (hr.mono (by decide)) rfl u_stake_count.g u_stake_count.kp u_stake_count.b .nil pass0 (pa_cons (pe_tup (pa_cons (pv 3) (pa_cons (pv 4) (pa_cons (pe_lst pa_nil) pa_nil)))) (pa_cons (pv 2) pa_nil)))) (pss_cons (ps_if (pt_cmpR op_ne (pe_op op_sub (pv 6) (pe_call u_stake_count.ok (hr.mono (by decide)) rfl u_stake_count.g u_stake_count.kp u_stake_count.b .nil pass0 (pa_cons (pv 1) (pa_cons (pv 2) pa_nil)))) (pe_call u_law_on_open.ok (hr.mono (by decide)) rfl u_law_on_open.g u_law_on_open.kp u_law_on_open.b .nil pass0 (pa_cons (pv 1) (pa_cons (pv 2) pa_nil))) (nomark _)) (pss_one (ps_ret pe_bl)) pss_nil) (pss_cons (ps_set (i := 7) sc_law_right.nd rfl (Or.inl rfl) (pe_tup (pa_cons (pv 3) (pa_cons (pv 4) (pa_cons (pe_ifExp (pt_cmpR op_gt (pe_callB call_len_seq (by rfl) N.len (by decide +kernel) (pa_cons (pv 4) pa_nil)) pe_int (nomark _)) (pe_listRg rfl rfl N.list (prg_1 rfl N.range (pe_callB call_len_seq (by rfl) N.len (by decide +kernel) (pa_cons (pv 4) pa_nil)))) (pe_lst pa_nil)) pa_nil))))) (pss_cons (ps_if (pt_cmpR op_ne (pe_op op_sub (pv 6) (pe_call u_stake_count.ok (hr.mono (by decide)) rfl u_stake_count.g u_stake_count.kp u_stake_count.b .nil pass0 (pa_cons (pv 7) (pa_cons (pv 2) pa_nil)))) (pe_call u_law_on_open.ok (hr.mono (by decide)) rfl u_law_on_open.g u_law_on_open.kp u_law_on_open.b .nil pass0 (pa_cons (pv 7) (pa_cons (pv 2) pa_nil))) (nomark _)) (pss_one (ps_ret pe_bl)) pss_nil) (pss_cons (ps_set (i := 8) sc_law_right.nd rfl (Or.inl rfl) (pe_ix ix_seq (pe_ix ix_seq (pe_call u_law_box.ok (hr.mono (by decide)) rfl u_law_box.g u_law_box.kp u_law_box.b .nil pass0 (pa_cons (pv 1) (pa_cons (pv 2) pa_nil))) pe_int (fun _ _ => rfl)) pe_int (fun _ _ => rfl))) (pss_cons (ps_if (pt_cmpR op_ne (pe_call u_below_count.ok (hr.mono (by decide)) rfl u_below_count.g u_below_count.kp u_below_count.b .nil pass0 (pa_cons (pv 1) (pa_cons (pv 2) (pa_cons (pv 8) pa_nil)))) (pe_call u_stake_count.ok (hr.mono (by decide)) rfl u_stake_count.g u_stake_count.kp u_stake_count.b .nil pass0 (pa_cons (pv 1) (pa_cons (pv 2) pa_nil))) (nomark _)) (pss_one (ps_ret pe_bl)) pss_nil) (pss_one (ps_ret (pe_and (pe_call u_law_one_more_right.ok (hr.mono (by decide)) rfl u_law_one_more_right.g u_law_one_more_right.kp u_law_one_more_right.b .nil pass0 (pa_cons (pv 0) (pa_cons (pv 1) (pa_cons (pv 2) pa_nil)))) (pe_one (pe_call u_law_spots_right.ok (hr.mono (by decide)) rfl u_law_spots_right.g u_law_spots_right.kp u_law_spots_right.b .nil pass0 (pa_cons (pv 0) (pa_cons (pv 1) (pa_cons (pv 2) pa_nil))))))))))))))), by
    obtain ⟨q, v, fen, often, kk, rfl, hp, hf, hv, hs, k⟩ := h
    obtain ⟨x, y, ht, hx, hy⟩ := hf.tn
    have hfen := valid_fen hv
    have ht0 := mo_tn _ _ _ _ hole_sub ht
    have hlen := hfen.2.2.2.1
    refine q_tup3 (ev_var rfl) ht0 fun H1 e1 => ?_
    have G : ∀ {H' : Hp}, Ex H1 H' → Ex (hole q H) H' := fun e => (hole_sub.trans e1).trans e
    refine q_asg (ev_countX (q := (fen.1, fen.2.1, [])) (er_fen3 (ev_var rfl) (er_var rfl ((mo_lr mo_t2).at _) (mo_lr mo_t2 _ _ _ _ (G (Ex.refl _)) hx)) er_nilN) (ev_var rfl) (valid_nil hv) hs) fun H2 e2 => ?_
    have vcount : ∀ {σ : L2.St} {H' : Hp}, Ex H1 H' → σ[1]? = some (some v) → σ[2]? = some (some (.int often)) → Ev (tCall spCount [] E0 (tCons (tVar 1) (tCons (tVar 2) tNil))) σ H' (.int (countM fen often none)) := fun e s1 s2 => ev_countX (er_var s1 (mo_fen.at _) (mo_fen _ _ _ _ (G e) hf)) (ev_var s2) hv hs
    have vopen : ∀ {σ : L2.St} {H' : Hp}, Ex H1 H' → σ[1]? = some (some v) → σ[2]? = some (some (.int often)) → Ev (tCall spOpen [] E0 (tCons (tVar 1) (tCons (tVar 2) tNil))) σ H' (.int (openM fen.1 fen.2.1 fen.2.2 often)) := fun {σ H'} e s1 s2 => ev_er ((er_use (fen, often) (ea2 (ev_var s1) (ev_var s2)) fun H3 e3 => ⟨v, rfl, mo_fen _ _ _ _ (G (e.trans e3)) hf, hv, hs⟩).imp fun _ _ _ h => h)
    refine q_when (b := false) (et_is (et_test (ev_op (ev_op (ev_var rfl) (vcount e2 rfl rfl) rv_I0) (vopen e2 rfl rfl) rv_neI)) ?_) (fun z => by cases z) (fun _ H3 e3 => ?_)
    · rw [OPEN fen often hv hs]
      simp
    have e13 := e2.trans e3
    have hse := ss_every fen.2.1.length
    have hve : Valid (fen.1, fen.2.1, if fen.2.1.length > 1 then List.range fen.2.1.length else []) := valid_with hv hse.1 hse.2
    have hx3 := mo_lr mo_t2 _ _ _ _ (G e13) hx
    refine q_asgR (R := fun H' u => FenV H' u (fen.1, fen.2.1, if fen.2.1.length > 1 then List.range fen.2.1.length else [])) (er_fen3 (ev_var rfl) (er_var rfl ((mo_lr mo_t2).at _) hx3) (er_if (et_test (ev_op (ev_lenL (ev_var rfl) hx3) ev_c rv_I0)) (fun hb => ?_) (fun hb => ?_))) fun ue H4 e4 hue => ?_
    · have hb : (fen.2.1.length : Int) > 1 := of_decide_eq_true hb
      rw [if_pos (by omega)]
      exact er_rng (ev_lenL (ev_var rfl) hx3) (by omega)
    · have hb : ¬ (fen.2.1.length : Int) > 1 := of_decide_eq_false hb
      rw [if_neg (by omega)]
      exact er_nilN
    refine q_when (b := false) (et_is (et_test (ev_op (ev_op (ev_var rfl) (ev_countX (er_var rfl (mo_fen.at _) hue) (ev_var rfl) hve hs) rv_I0) (ev_er ((er_use ((fen.1, fen.2.1, if fen.2.1.length > 1 then List.range fen.2.1.length else []), often) (ea2 (ev_var rfl) (ev_var rfl)) fun H5 e5 => ⟨ue, rfl, mo_fen _ _ _ _ e5 hue, hve, hs⟩).imp fun _ _ _ h => h)) rv_neI)) ?_) (fun z => by cases z) (fun _ H5 e5 => ?_)
    · have hO := OPEN (fen.1, fen.2.1, if fen.2.1.length > 1 then List.range fen.2.1.length else []) often hve hs
      have hO2 : countM (fen.1, fen.2.1, []) often none - countM (fen.1, fen.2.1, if fen.2.1.length > 1 then List.range fen.2.1.length else []) often none = openM fen.1 fen.2.1 (if fen.2.1.length > 1 then List.range fen.2.1.length else []) often := hO
      rw [hO2]
      simp
    have e15 := (e13.trans e4).trans e5
    refine q_asg (v := .int (boxAt fen.1 fen.2.1 often 1).2) (ev_ixLT (n := 1) (m := 1) (er_use (fen, often) (ea2 (ev_var rfl) (ev_var rfl)) fun H6 e6 => ⟨v, rfl, mo_fen _ _ _ _ (G (e15.trans e6)) hf, hv, hs⟩) rfl rfl) fun H6 e6 => ?_
    have e16 := e15.trans e6
    refine q_when (b := false) (et_is (et_test (ev_op (ev_er ((er_use (fen, often, (boxAt fen.1 fen.2.1 often 1).2) (ea3 (ev_var rfl) (ev_var rfl) (ev_var rfl)) fun H7 e7 => ⟨v, rfl, mo_fen _ _ _ _ (G (e16.trans e7)) hf, hv, hs, box_bd hv hs⟩).imp fun _ _ _ h => h)) (vcount e16 rfl rfl) rv_neI)) ?_) (fun z => by cases z) (fun _ H7 e7 => ?_)
    · rw [BELOW fen often hv hs]
      simp
    have e17 := e16.trans e7
    have p7 := (hp.mono e1).mono e17
    have x7 : ExQ q H H7 := (Ex.q e1).trans (Ex.q e17)
    refine s_retAnd (X := fun H' => ExQ q H7 H' ∧ Pool H' q (kk + 6)) (fun Q' hQ => ?_) fun H9 ⟨x9, p9⟩ => ?_
    · refine callX (vs := [.ref q, v, .int often]) (ea3 (ev_var rfl) (ev_var rfl) (ev_var rfl)) fun H8 e8 => ?_
      exact ⟨q, v, fen, often, kk + 6, rfl, p7.mono e8, mo_fen _ _ _ _ (hole_ex (x7.trans (Ex.q e8))) hf, hv, hs, fun H9 x9 p9 => hQ H9 ⟨(Ex.q e8).trans x9, p9⟩⟩
    · refine callX (vs := [.ref q, v, .int often]) (ea3 (ev_var rfl) (ev_var rfl) (ev_var rfl)) fun H10 e10 => ?_
      have x10 := (x7.trans x9).trans (Ex.q e10)
      exact ⟨q, v, fen, often, kk, rfl, p9.mono e10, mo_fen _ _ _ _ (hole_ex x10) hf, hv, hs, fun H11 x11 p11 => k H11 (x10.trans x11) p11⟩⟩)
/-! ### law -/
theorem ten15 : (10 : Int) ^ (15 : Int).toNat = 10 ^ 15 := rfl
theorem mm3 (n : Nat) : 1 ≤ mx 1 (mn 3 (n : Int)) ∧ mx 1 (mn 3 (n : Int)) ≤ 3 := by
  unfold mx mn
  split <;> split <;> omega
/-- _law_plot(pool, e1, e2): e1 drawn -/
theorem sq_plot {q : Addr} {m c i ip : Nat} {sp : Sp} {E : XK} {te tf : TE} {σ : L2.St} {H : Hp} {P : Int → Prop} {v : V} {tz : TS} {D : Ends} (hs : σ[ip]? = some (some (.ref q))) (h : EQ q c te σ (hole q H) (DI P)) (p : Pool H q (m + c)) (g : Ev tf σ (hole q H) v) (k : ∀ d H1, ExQ q H H1 → Pool H1 q m → P d → sp [.ref q, .int d, v] H1 (fun v H2 => gName i v σ H2 (tz D)) E) : tSeq (tAsg (tCall sp [] E (tCons (tVar ip) (tCons te (tCons tf tNil)))) (gName i)) tz D σ H :=
  ⟨_, hs, h m H (Ex.refl _) p _ fun u H1 x1 p1 ⟨d, hu, hd⟩ => by
    subst hu
    exact g H1 ((hole_ex x1).trans hole_sub) _ fun H2 e2 => k d H2 (x1.trans (Ex.q e2)) (p1.mono e2) hd⟩
/-- if not _law_right(pool, plot, e): return False -/
theorem st_right {q : Addr} {m c ip iv : Nat} {sp : Sp} {E : XK} {te : TE} {σ : L2.St} {H : Hp} {P : Int → Prop} {v : V} {tu : TS} {D : Ends} (h : EQ q c te σ (hole q H) (DI P)) (p : Pool H q (m + c)) (hs : σ[ip]? = some (some (.ref q))) (hv : σ[iv]? = some (some v)) (k : ∀ d H1, ExQ q H H1 → Pool H1 q m → P d → sp [.ref q, v, .int d] H1 (fun u H2 => ∃ b, u = .bl b ∧ (if (!b) = true then tu D σ H2 else D.nx σ H2)) E) : tIfS (tNot (tB (tCall sp [] E (tCons (tVar ip) (tCons (tVar iv) (tCons te tNil)))))) tu tNext D σ H :=
  ⟨_, hs, _, hv, h m H (Ex.refl _) p _ fun u H1 x1 p1 ⟨d, hu, hd⟩ => by
    subst hu
    exact k d H1 x1 p1 hd⟩
def spLaw (K : PySem.W.Frag) : Sp := fun vs H Q _ => ∃ (a : Addr) (ns : List Int), vs = [.ref a] ∧ SqL K H a (ns.map V.int) ∧ ∀ H', Q (.bl true) H'
theorem sc_law : FnScope ["_law_script", "_law_at", "_law_pool_here", "_law_lap", "_law_plot_here", "_law_sizes_here"] ["_law_script"] (defScope s_law) := ⟨rfl, rfl, rfl, by decide +kernel, rfl, by decide +kernel, by decide +kernel⟩
theorem ok_law (F : FnP K "law" s_law f fd) (N : Nm mg) {f1 f2 f3 f4 : Addr} {fd1 fd2 fd3 fd4 : FuncData} (u_law_pool : Use P w K mg base "_law_pool" 1 ["_law_script", "_law_at"] (spPool K) f1 fd1) (u_law_draw : Use P w K mg base "_law_draw" 1 ["_law_pool_here", "_law_span"] spDraw f2 fd2) (u_law_plot : Use P w K mg base "_law_plot" 3 ["_law_pool_here", "_law_far", "_law_most"] spPlot f3 fd3) (u_law_right : Use P w K mg base "_law_right" 11 ["_law_pool_here", "_law_plot_here", "_law_often"] spRight f4 fd4) :
    FnOk P w K mg base CX0 12 f fd ["_law_script"] (spLaw K) :=
  F.ok sc_law (fun _ _ _ _ ⟨_, _, h, _⟩ => by rw [h]; rfl) (fun cdv A outer s H vs Q E hr h => ⟨_, PSs.nox (pss_cons (ps_for PassesOwn.never rfl (pi_range1 rfl N.range (pa_cons (pe_callB (call_max2 rfl) (by rfl) N.max (by decide +kernel) (pa_cons pe_int (pa_cons (pe_callB (call_min2 rfl) (by rfl) N.min (by decide +kernel) (pa_cons pe_int (pa_cons (pe_callB call_len_seq (by rfl) N.len (by decide +kernel) (pa_cons (pv 0) pa_nil)) pa_nil))) pa_nil))) pa_nil)) (pg_name (i := 1) sc_law.nd rfl (Or.inl rfl)) (pss_cons (ps_set (i := 2) sc_law.nd rfl (Or.inl rfl) (pe_call u_law_pool.ok (hr.mono (by decide)) rfl u_law_pool.g u_law_pool.kp u_law_pool.b .nil pass0 (pa_cons (pv 0) (pa_cons (pv 1) pa_nil)))) (pss_one (ps_for PassesOwn.never rfl (pi_range1 rfl N.range (pa_cons (pe_ix ix_seq (pe_lst (pa_cons pe_int (pa_cons pe_int pa_nil))) (pe_callTy call_int1 (by rfl) N.int (by decide +kernel) (pa_cons (pe_cmpR op_eq (pv 1) pe_int (nomark _)) pa_nil)) (fun _ _ => rfl)) pa_nil)) (pg_name (i := 3) sc_law.nd rfl (Or.inl rfl)) (pss_cons (ps_set (i := 4) sc_law.nd rfl (Or.inl rfl) (pe_call u_law_plot.ok (hr.mono (by decide)) rfl u_law_plot.g u_law_plot.kp u_law_plot.b .nil pass0 (pa_cons (pv 2) (pa_cons (pe_ix ix_seq (pe_lst (pa_cons pe_int (pa_cons pe_int (pa_cons (pe_ix ix_seq (pe_lst (pa_cons (pe_op op_powW pe_int pe_int) (pa_cons (pe_op op_powW pe_int pe_int) pa_nil))) (pe_call u_law_draw.ok (hr.mono (by decide)) rfl u_law_draw.g u_law_draw.kp u_law_draw.b .nil pass0 (pa_cons (pv 2) (pa_cons pe_int pa_nil))) (fun _ _ => rfl)) pa_nil)))) (pv 3) (fun _ _ => rfl)) (pa_cons (pe_ix ix_seq (pe_lst (pa_cons pe_int (pa_cons pe_int (pa_cons pe_int pa_nil)))) (pv 3) (fun _ _ => rfl)) pa_nil))))) (pss_cons (ps_set (i := 5) sc_law.nd rfl (Or.inl rfl) (pe_lst (pa_cons (pe_op op_add pe_int (pe_call u_law_draw.ok (hr.mono (by decide)) rfl u_law_draw.g u_law_draw.kp u_law_draw.b .nil pass0 (pa_cons (pv 2) (pa_cons pe_int pa_nil)))) (pa_cons (pe_op op_mulW (pe_ix ix_seq (pv 4) pe_int (fun _ _ => rfl)) (pe_op op_add pe_int (pe_call u_law_draw.ok (hr.mono (by decide)) rfl u_law_draw.g u_law_draw.kp u_law_draw.b .nil pass0 (pa_cons (pv 2) (pa_cons pe_int pa_nil))))) (pa_cons (pe_op op_add pe_int (pe_call u_law_draw.ok (hr.mono (by decide)) rfl u_law_draw.g u_law_draw.kp u_law_draw.b .nil pass0 (pa_cons (pv 2) (pa_cons (pe_op op_powW pe_int pe_int) pa_nil)))) pa_nil))))) (pss_one (ps_if (pt_not (pt_val (pe_call u_law_right.ok (hr.mono (by decide)) rfl u_law_right.g u_law_right.kp u_law_right.b .nil pass0 (pa_cons (pv 2) (pa_cons (pv 4) (pa_cons (pe_ix ix_seq (pv 5) (pe_call u_law_draw.ok (hr.mono (by decide)) rfl u_law_draw.g u_law_draw.kp u_law_draw.b .nil pass0 (pa_cons (pv 2) (pa_cons pe_int pa_nil))) (fun _ _ => rfl)) pa_nil)))))) (pss_one (ps_ret pe_bl)) pss_nil)))))))) (pss_one (ps_ret pe_bl))), by
    obtain ⟨a, ns, rfl, hl, k⟩ := h
    have hmm := mm3 (ns.map V.int).length
    refine q_forR1 (n := mx 1 (mn 3 ((ns.map V.int).length : Int))) (ea1 (ev_max2' ev_c (ev_min2 ev_c (ev_len (ev_var rfl) hl)))) (by omega) (fun i σ' H' => Ex H H' ∧ ∃ x1 x2 x3 x4 x5 : Option V, σ' = [some (.ref a), x1, x2, x3, x4, x5]) (fun H1 e1 => ⟨e1, _, _, _, _, _, rfl⟩) ?_ ?_
    · rintro i σ' H1 hi ⟨e1, x1, x2, x3, x4, x5, rfl⟩
      have hi3 : i < 3 := by omega
      refine sq_call (vs := [.ref a, .int (i : Int)]) (ea2 (ev_var rfl) (ev_var rfl)) fun H2 e2 => ?_
      refine ⟨a, ns, i, rfl, ex_l (e1.trans e2) hl, by omega, fun q H3 hq e3 hp => ?_⟩
      dsimp only [gName]
      have hqH : H q = none := fresh_back (e1.trans e2) hq
      have e13 : Ex H H3 := (e1.trans e2).trans e3
      have hn : ∃ n : Nat, atI [V.int 2, V.int 3] (if decide (V.int (i : Int) = V.int 0) = true then 1 else 0) = some (.int (n : Int)) ∧ n ≤ 3 := by
        split
        · exact ⟨3, rfl, by decide⟩
        · exact ⟨2, rfl, by decide⟩
      obtain ⟨n, hn1, hn3⟩ := hn
      have toEx : ∀ {H' : Hp}, ExQ q H3 H' → Ex H H' := fun x a o ha => x a o (ne_of_none ha hqH) (e13 a o ha)
      refine s_forR1 (n := n) (ea1 (ev_opL1 (el_lst (ea2 ev_c ev_c) (by simp)) (fun _ _ => ev_int (ev_op (ev_var (i := 1) (v := .int (i : Int)) rfl) (ev_c (v := .int 0)) (rv_eq rfl))) fun p G hG _ => rv_ixl hG hn1)) (by omega) (fun j σ' H' => ExQ q H3 H' ∧ Pool H' q (1000 + 100 * (3 - j)) ∧ ∃ x3 x4 x5 : Option V, σ' = [some (.ref a), some (.int (i : Int)), some (.ref q), x3, x4, x5]) (fun H4 e4 => ⟨Ex.q e4, (hp.mono e4).less (by omega), _, _, _, rfl⟩) ?_ ?_
      · rintro j σ' H4 hj ⟨x4', p4, y3, y4, y5, rfl⟩
        have hj3 : j < 3 := by omega
        let m : Nat := 1000 + 100 * (3 - (j + 1))
        have p4' : Pool H4 q (m + 30 + 60 + 1) := p4.less (by show 1000 + 100 * (3 - (j + 1)) + 30 + 60 + 1 ≤ _; omega)
        have b2 : Bd 8000 (2 : Int) := Bd.two.mono (by decide)
        have c15 : CPowW 10 15 := by unfold CPowW; decide +kernel
        have c30 : CPowW 10 30 := by unfold CPowW; decide +kernel
        have v15 : (10 : Int) ^ (15 : Int).toNat = 10 ^ 15 := rfl
        have v30 : (10 : Int) ^ (30 : Int).toNat = 10 ^ 30 := rfl
        have hle : (10 : Int) ^ 15 ≤ 10 ^ 30 := by decide +kernel
        have h3le : (3 : Int) ≤ 10 ^ 15 := by decide +kernel
        have h24 : (24 : Int) ≤ 10 ^ 30 := by decide +kernel
        have h3le2 : (3 : Int) ≤ 10 ^ 30 := by decide +kernel
        let σj : L2.St := [some (.ref a), some (.int (i : Int)), some (.ref q), some (.int (j : Int)), y4, y5]
        let PF : Int → Prop := fun d => 3 ≤ d ∧ d ≤ 10 ^ 30
        have qin : EQ q (0 + 1) (tOp (rIx K) (tLst (tCons (tOp (rI CPowW fun i j => .int (i ^ j.toNat)) (tC (.int 10)) (tC (.int 15))) (tCons (tOp (rI CPowW fun i j => .int (i ^ j.toNat)) (tC (.int 10)) (tC (.int 30))) tNil))) (tCall spDraw [] E0 (tCons (tVar 2) (tCons (tC (.int 2)) tNil)))) σj (hole q H4) (DI PF) :=
          eq_op (Ra := fun G v => ∃ a, v = .ref a ∧ G a = some (.lst [V.int (10 ^ (15 : Int).toNat), V.int (10 ^ (30 : Int).toNat)])) (Rb := DI fun d => 0 ≤ d ∧ d < 2) (eq_lstV (ea2 (ev_op ev_c ev_c (rv_I c15)) (ev_op ev_c ev_c (rv_I c30))) (by simp)) (fun _ _ _ e ⟨a, h1, h2⟩ => ⟨a, h1, e _ _ h2⟩) (eq_draw (ea2 (ev_var rfl) ev_c) (by decide) b2) mo_di fun G x y e ⟨b, g1, g2⟩ ⟨d, g3, g4, g5⟩ => by
            subst g1
            subst g3
            have hk : d = 0 ∨ d = 1 := by omega
            rcases hk with rfl | rfl
            · exact ⟨_, rv_ixl g2 rfl, _, rfl, by rw [v15]; exact h3le, by rw [v15]; exact hle⟩
            · exact ⟨_, rv_ixl g2 rfl, _, rfl, by rw [v30]; exact h3le2, by rw [v30]; exact Int.le_refl _⟩
        have qfar : EQ q (0 + 0 + (0 + 1) + 0) (tOp (rIx K) (tLst (tCons (tC (.int 3)) (tCons (tC (.int 24)) (tCons (tOp (rIx K) (tLst (tCons (tOp (rI CPowW fun i j => .int (i ^ j.toNat)) (tC (.int 10)) (tC (.int 15))) (tCons (tOp (rI CPowW fun i j => .int (i ^ j.toNat)) (tC (.int 10)) (tC (.int 30))) tNil))) (tCall spDraw [] E0 (tCons (tVar 2) (tCons (tC (.int 2)) tNil)))) tNil)))) (tVar 3)) σj (hole q H4) (DI PF) :=
          eq_op (Ra := fun G v => ∃ a x y z, v = .ref a ∧ G a = some (.lst [x, y, z]) ∧ DI PF G x ∧ DI PF G y ∧ DI PF G z) (Rb := Is (.int (j : Int))) (eq_lst3 (eq_int ev_c ⟨by decide, h3le2⟩) mo_di (eq_int ev_c ⟨by decide, h24⟩) mo_di qin mo_di) (fun _ _ _ e ⟨a, x, y, z, h1, h2, h3, h4, h5⟩ => ⟨a, x, y, z, h1, e _ _ h2, h3, h4, h5⟩) (eq_is (ev_var rfl)) mo_di fun G x y e ⟨b, u1, u2, u3, g1, g2, g3, g4, g5⟩ hy => by
            subst g1
            cases hy
            match j, hj3 with
            | 0, _ => exact ⟨_, rv_ixl g2 rfl, g3⟩
            | 1, _ => exact ⟨_, rv_ixl g2 rfl, g4⟩
            | 2, _ => exact ⟨_, rv_ixl g2 rfl, g5⟩
        have hmost : ∃ mo : Int, atI [V.int 6, V.int 30, V.int 30] (j : Int) = some (.int mo) ∧ 1 ≤ mo ∧ mo ≤ 30 := by
          match j, hj3 with
          | 0, _ => exact ⟨6, rfl, by decide, by decide⟩
          | 1, _ => exact ⟨30, rfl, by decide, by decide⟩
          | 2, _ => exact ⟨30, rfl, by decide, by decide⟩
        obtain ⟨mo, hmo, hmo1, hmo2⟩ := hmost
        refine sq_plot (q := q) (m := m + 30 + 60) (rfl : σj[2]? = some (some (.ref q))) qfar p4' (ev_opL1 (el_lst (ea3 ev_c ev_c ev_c) (by simp)) (fun _ _ => ev_var rfl) fun p G hG _ => rv_ixl hG hmo) fun far H5 x5 p5 ⟨pf1, pf2⟩ => ?_
        refine ⟨q, far, mo, m + 30, rfl, p5, pf1, pf2, hmo1, hmo2, fun v H6 fen hv x6 p6 hf => ?_⟩
        dsimp only [gName]
        have hfen := valid_fen hv
        obtain ⟨xc, yc, ht, _, _⟩ := hf.tn
        have b12 : Bd 8000 (12 : Int) := Bd.mono (n := 4) (by unfold Bd; decide) (by decide)
        have b9 : Bd 8000 (9 : Int) := Bd.mono (n := 4) (by unfold Bd; decide) (by decide)
        have b3' : Bd 8000 (3 : Int) := Bd.mono (n := 2) (by unfold Bd; decide) (by decide)
        have b30 : Bd 8000 ((10 : Int) ^ (30 : Int).toNat) := Bd.mono (n := 100) (by unfold Bd; decide +kernel) (by decide)
        have s12 : (12 : Int) ≤ 10 ^ 30 := by decide +kernel
        have s270 : (270 : Int) ≤ 10 ^ 30 := by decide +kernel
        have fb := hv.1
        have fb2 := hv.2.1
        have hp0 : 0 < (10 : Int) ^ (30 : Int).toNat := by decide +kernel
        refine sq_asg (m := m + 30 - 3) (c := (0 + 1) + (0 + (0 + 1)) + (0 + 1)) (R := fun G v => ∃ a x y z, v = .ref a ∧ G a = some (.lst [x, y, z]) ∧ DI SzOk G x ∧ DI SzOk G y ∧ DI SzOk G z) (eq_lst3 (eq_opI (g := fun i j => i + j) (P1 := fun i => i = 1) (P2 := fun d => 0 ≤ d ∧ d < 12) (eq_int ev_c rfl) (eq_draw (ea2 (ev_var rfl) ev_c) (by decide) b12) (fun a d h1 h2 => by subst h1; exact ⟨by omega, Int.le_trans (show 1 + d ≤ 12 by omega) s12⟩)) mo_di
          (eq_opC (g := fun i j => i * j) (P1 := fun i => i = fen.1) (P2 := fun d => 1 ≤ d ∧ d ≤ 9) (eq_int (ev_ixt (ev_var rfl) ht ev_c rfl) rfl) (eq_opI (g := fun i j => i + j) (P1 := fun i => i = 1) (P2 := fun d => 0 ≤ d ∧ d < 9) (eq_int ev_c rfl) (eq_draw (ea2 (ev_var rfl) ev_c) (by decide) b9) (fun a d h1 h2 => by subst h1; omega)) (fun a d h1 h2 => by
            subst h1
            have hd : Bd 10 d := by
              unfold Bd
              have : d.natAbs ≤ 9 := by omega
              exact Nat.lt_of_le_of_lt this (by decide)
            refine ⟨cmulB hfen.2.1 hd (by decide), ?_, ?_⟩
            · have := Int.mul_le_mul fb h2.1 (by decide) (by omega)
              omega
            · have := Int.mul_le_mul fb2 h2.2 (by omega) (by decide)
              omega)) mo_di
          (eq_opI (g := fun i j => i + j) (P1 := fun i => i = 1) (P2 := fun d => 0 ≤ d ∧ d < (10 : Int) ^ (30 : Int).toNat) (eq_int ev_c rfl) (eq_draw (ea2 (ev_var rfl) (ev_op ev_c ev_c (rv_I c30))) hp0 b30) (fun a d h1 h2 => by
            subst h1
            rw [v30] at h2
            exact ⟨by omega, by omega⟩)) mo_di) (p6.less (by show m + 30 - 3 + 3 ≤ m + 30; omega)) fun vs H7 x7 p7 r7 => ?_
        have hf7 := mo_fen _ _ _ _ (hole_ex x7) hf
        have qs : EQ q (0 + 1) (tOp (rIx K) (tVar 5) (tCall spDraw [] E0 (tCons (tVar 2) (tCons (tC (.int 3)) tNil)))) [some (.ref a), some (.int (i : Int)), some (.ref q), some (.int (j : Int)), some v, some vs] (hole q H7) (DI SzOk) :=
          eq_op (Ra := fun G v => ∃ a x y z, v = .ref a ∧ G a = some (.lst [x, y, z]) ∧ DI SzOk G x ∧ DI SzOk G y ∧ DI SzOk G z) (Rb := DI fun d => 0 ≤ d ∧ d < 3) (eq_ev (ev_var rfl) fun G' e' => by
            obtain ⟨b, u1, u2, u3, g1, g2, g3⟩ := r7
            exact ⟨b, u1, u2, u3, g1, e' _ _ g2, g3⟩) (fun _ _ _ e ⟨a, x, y, z, h1, h2, h3, h4, h5⟩ => ⟨a, x, y, z, h1, e _ _ h2, h3, h4, h5⟩) (eq_draw (ea2 (ev_var rfl) ev_c) (by decide) b3') mo_di fun G x y e ⟨b, u1, u2, u3, g1, g2, g3, g4, g5⟩ ⟨d, g6, g7, g8⟩ => by
            subst g1
            subst g6
            have hk : d = 0 ∨ d = 1 ∨ d = 2 := by omega
            rcases hk with rfl | rfl | rfl
            · exact ⟨_, rv_ixl g2 rfl, g3⟩
            · exact ⟨_, rv_ixl g2 rfl, g4⟩
            · exact ⟨_, rv_ixl g2 rfl, g5⟩
        refine st_right (m := m + 10) qs (p7.less (by show m + 10 + 1 ≤ m + 30 - 3; omega)) rfl rfl fun sz H8 x8 p8 hsz => ?_
        refine ⟨q, v, fen, sz, m, rfl, p8.less (by omega), mo_fen _ _ _ _ (hole_ex x8) hf7, hv, hsz, fun H9 x9 p9 => ⟨true, rfl, ?_⟩⟩
        exact ⟨((((x4'.trans x5).trans x6).trans x7).trans x8).trans x9, p9, _, _, _, rfl⟩
      · rintro σ' H4 ⟨x4', p4, y3, y4, y5, rfl⟩
        exact ⟨toEx x4', _, _, _, _, _, rfl⟩
    · rintro σ' H1 ⟨e1, x1, x2, x3, x4, x5, rfl⟩
      exact s_ret ev_c fun H2 e2 => k H2⟩)
end
end GF
set_option Elab.async false
set_option linter.all false
set_option maxRecDepth 100000
set_option maxHeartbeats 1000000
/-! The plain laws: what belongs, the sides that are open. -/
namespace GF
theorem not_any {α : Type} (l : List α) (f : α → Bool) : (!l.any f) = l.all fun x => !f x := by
  induction l with
  | nil => rfl
  | cons a r ih => rw [List.any_cons, List.all_cons, Bool.not_or, ih]
theorem law_holds : LawHolds := fun q size pt _ _ => by
  unfold holdsM
  by_cases hl : (scaleM size q.2.1).length < 3
  · rw [if_pos hl, if_pos hl]
    by_cases ht : turnM (at_ (scaleM size q.2.1) 0) (at_ (scaleM size q.2.1) ((scaleM size q.2.1).length - 1)) (pt.1 * q.1, pt.2 * q.1) ≠ 0
    · rw [if_pos ht, if_pos ht]
      rfl
    · rw [if_neg ht, if_neg ht]
      by_cases hc : (decide (ptle (at_ (scaleM size q.2.1) 0) (pt.1 * q.1, pt.2 * q.1)) && decide (ptle (pt.1 * q.1, pt.2 * q.1) (at_ (scaleM size q.2.1) ((scaleM size q.2.1).length - 1)))) = true
      · rw [if_pos hc, if_pos hc, not_any]
        show _ = (true && _)
        rw [Bool.true_and]
        congr 1
        funext e
        rw [if_pos hl, if_neg ht, if_pos hc]
        show _ = !(_ || false)
        rw [Bool.or_false]
      · rw [if_neg hc, if_neg hc]
        rfl
  · rw [if_neg hl, if_neg hl]
    generalize hA : (turnsM (scaleM size q.2.1) (pt.1 * q.1, pt.2 * q.1)).all (fun t => decide (0 ≤ t)) = A
    cases A with
    | false => simp
    | true =>
      rw [Bool.true_and]
      show _ = ((true && true) && _)
      rw [Bool.true_and, Bool.true_and]
      congr 1
      funext e
      rw [if_neg hl]
      show _ = (true && (_ && true))
      rw [Bool.true_and, Bool.and_true]
/-! ### the corners between two open sides -/
theorem stake_none {b : Int} {ps : List P2} {size : Int} {n : Nat} (h : n < ps.length) : stakeM b (scaleM size ps) n none = lawStake b ps size n := by
  unfold stakeM lawStake
  rw [scale_at h, Bool.and_true]
  show (decide (((at_ ps n).1 * size).fmod b = 0) && decide (0 = ((at_ ps n).2 * size).fmod b)) = _
  rw [Int.mul_comm (at_ ps n).1, Int.mul_comm (at_ ps n).2]
  congr 1
  exact decide_eq_decide.mpr ⟨fun h => h.symm, fun h => h.symm⟩
theorem prev_next {n e : Nat} (h : e < n) : prevM n (nextM n e) = e := by
  unfold prevM nextM
  by_cases h1 : e + 1 < n
  · rw [Nat.mod_eq_of_lt h1, show e + 1 + (n - 1) = e + n by omega, Nat.add_mod_right, Nat.mod_eq_of_lt h]
  · have : e + 1 = n := by omega
    rw [this, Nat.mod_self, Nat.zero_add, Nat.mod_eq_of_lt (by omega)]
    omega
theorem next_prev {n e : Nat} (h : e < n) : nextM n (prevM n e) = e := by
  unfold prevM nextM
  by_cases h1 : e = 0
  · subst h1
    rw [Nat.zero_add, Nat.mod_eq_of_lt (show n - 1 < n by omega), show n - 1 + 1 = n by omega, Nat.mod_self]
  · have e1 : (e + (n - 1)) % n = e - 1 := by
      rw [show e + (n - 1) = (e - 1) + n by omega, Nat.add_mod_right, Nat.mod_eq_of_lt (by omega)]
    rw [e1, show e - 1 + 1 = e by omega, Nat.mod_eq_of_lt h]
theorem next_lt {n : Nat} (e : Nat) (h : 0 < n) : nextM n e < n := Nat.mod_lt _ h
theorem prev_lt {n : Nat} (e : Nat) (h : 0 < n) : prevM n e < n := Nat.mod_lt _ h
theorem map_nodup {α β : Type} {f : α → β} {l : List α} (h : l.Nodup) (hi : ∀ x ∈ l, ∀ y ∈ l, f x = f y → x = y) : (l.map f).Nodup := by
  induction l with
  | nil => exact List.nodup_nil
  | cons a r ih =>
    rw [List.nodup_cons] at h
    rw [List.map_cons, List.nodup_cons]
    refine ⟨fun hm => ?_, ih h.2 fun x hx y hy => hi x (List.mem_cons_of_mem _ hx) y (List.mem_cons_of_mem _ hy)⟩
    obtain ⟨x, hx, e⟩ := List.mem_map.mp hm
    have := hi x (List.mem_cons_of_mem _ hx) a (List.mem_cons_self ..) e
    rw [this] at hx
    exact h.1 hx
theorem asc_nodup {ss : List Nat} (h : ss.Pairwise (· < ·)) : ss.Nodup := h.imp fun h => Nat.ne_of_lt h
theorem twice_drop {n : Nat} {ss : List Nat} (st : Nat → Bool) (hn : 0 < n) (ha : ss.Pairwise (· < ·)) (hl : ∀ s ∈ ss, s < n) : ((twiceM n ss).filter st).length = (ss.filter fun e => decide (nextM n e ∈ ss) && st (nextM n e)).length := by
  unfold twiceM
  rw [List.filter_filter]
  have hnd := asc_nodup ha
  refine Nat.le_antisymm ?_ ?_
  · have h1 : ((ss.filter fun a => st a && decide (prevM n a ∈ ss)).map (prevM n)).Nodup := map_nodup (hnd.filter _) fun x hx y hy e => by
      have hx := (List.mem_filter.mp hx).1
      have hy := (List.mem_filter.mp hy).1
      rw [← next_prev (hl x hx), ← next_prev (hl y hy), e]
    have h2 := nodup_len (ys := ss.filter fun e => decide (nextM n e ∈ ss) && st (nextM n e)) h1 fun x hx => by
      obtain ⟨s, hs, rfl⟩ := List.mem_map.mp hx
      obtain ⟨hs1, hs2⟩ := List.mem_filter.mp hs
      rw [Bool.and_eq_true] at hs2
      refine List.mem_filter.mpr ⟨of_decide_eq_true hs2.2, ?_⟩
      rw [next_prev (hl s hs1), Bool.and_eq_true]
      exact ⟨decide_eq_true hs1, hs2.1⟩
    rw [List.length_map] at h2
    exact h2
  · have h1 : ((ss.filter fun e => decide (nextM n e ∈ ss) && st (nextM n e)).map (nextM n)).Nodup := map_nodup (hnd.filter _) fun x hx y hy e => by
      have hx := (List.mem_filter.mp hx).1
      have hy := (List.mem_filter.mp hy).1
      rw [← prev_next (hl x hx), ← prev_next (hl y hy), e]
    have h2 := nodup_len (ys := ss.filter fun a => st a && decide (prevM n a ∈ ss)) h1 fun x hx => by
      obtain ⟨s, hs, rfl⟩ := List.mem_map.mp hx
      obtain ⟨hs1, hs2⟩ := List.mem_filter.mp hs
      rw [Bool.and_eq_true] at hs2
      refine List.mem_filter.mpr ⟨of_decide_eq_true hs2.1, ?_⟩
      rw [prev_next (hl s hs1), Bool.and_eq_true]
      exact ⟨hs2.2, decide_eq_true hs1⟩
    rw [List.length_map] at h2
    exact h2
theorem count_sum (ss : List Nat) (p : Nat → Bool) : (ss.map fun e => (if p e = true then (1 : Int) else 0)).sum = ((ss.filter p).length : Int) := by
  induction ss with
  | nil => rfl
  | cons a r ih =>
    rw [List.map_cons, List.sum_cons, ih, List.filter_cons]
    by_cases h : p a = true
    · rw [if_pos h, if_pos h, List.length_cons]
      omega
    · rw [if_neg h, if_neg h]
      omega
theorem shut_nil (b : Int) (cs : List P2) (row : Option Int) : shutM b cs [] row = 0 := by
  unfold shutM
  split <;> rfl
theorem shut_open {q : Fen} {size : Int} (hv : Valid q) : shutM q.1 (scaleM size q.2.1) q.2.2 none = openM q.1 q.2.1 q.2.2 size := by
  have hss := valid_ss hv
  unfold shutM openM
  rw [scale_len]
  by_cases hl : q.2.1.length < 3
  · rw [if_pos hl, if_pos hl, ← count_sum]
    congr 1
    refine List.map_congr_left fun e he => ?_
    unfold sideM
    rw [scale_len, if_pos hl]
  · rw [if_neg hl, if_neg hl]
    have h1 : (q.2.2.map fun s => spanCnt (spanAt q.1 (scaleM size q.2.1) s) none) = q.2.2.map fun e => sideM q.1 (scaleM size q.2.1) e := List.map_congr_left fun e he => by
      unfold sideM
      rw [scale_len, if_neg hl]
    rw [h1]
    have h2 : ((twiceM q.2.1.length q.2.2).filter fun s => stakeM q.1 (scaleM size q.2.1) s none) = ((twiceM q.2.1.length q.2.2).filter fun s => lawStake q.1 q.2.1 size s) := List.filter_congr fun s hs => stake_none (hss s (List.mem_filter.mp hs).1)
    rw [h2, twice_drop _ (by omega) hv.2.2.2.1 hss]
    rfl
theorem law_open : LawOpen := fun q size hv hs => by
  unfold countM belowM
  rw [shut_nil, shut_open hv]
  show closedM q.1 (scaleM size q.2.1) none - 0 - (closedM q.1 (scaleM size q.2.1) none - _) = _
  omega
/-! ### one side more -/
theorem perm_sum {xs ys : List Nat} (h : xs.Perm ys) (f : Nat → Int) : (xs.map f).sum = (ys.map f).sum := by
  induction h with
  | nil => rfl
  | cons x _ ih => rw [List.map_cons, List.map_cons, List.sum_cons, List.sum_cons, ih]
  | swap x y l =>
    simp only [List.map_cons, List.sum_cons]
    omega
  | trans _ _ i1 i2 => exact i1.trans i2
theorem filt_len (ss : List Nat) (p : Nat → Bool) : ((ss.filter p).length : Int) = (ss.map fun e => (if p e = true then (1 : Int) else 0)).sum := (count_sum ss p).symm
theorem one_count {ss : List Nat} (hnd : ss.Nodup) (x : Nat) (c : Bool) : (ss.filter fun s => decide (s = x) && c).length = if (decide (x ∈ ss) && c) = true then 1 else 0 := by
  induction ss with
  | nil => simp
  | cons a r ih =>
    rw [List.nodup_cons] at hnd
    rw [List.filter_cons]
    by_cases ha : a = x
    · subst ha
      have hr : (r.filter fun s => decide (s = a) && c).length = 0 := by
        rw [ih hnd.2, if_neg]
        rw [decide_eq_false hnd.1]
        simp
      cases c with
      | true => simp at hr ⊢; exact hr
      | false => simp at hr ⊢
    · rw [if_neg (by simp [ha]), ih hnd.2]
      have : decide (x ∈ a :: r) = decide (x ∈ r) := decide_eq_decide.mpr ⟨fun h => (List.mem_cons.mp h).elim (fun z => absurd z.symm ha) id, fun h => List.mem_cons_of_mem _ h⟩
      rw [this]
theorem twice_more {n e : Nat} {ss ss' : List Nat} (st : Nat → Bool) (hn : 3 ≤ n) (ha : ss.Pairwise (· < ·)) (hl : ∀ s ∈ ss, s < n) (he : e < n) (hes : e ∉ ss) (hp : ss'.Perm (ss ++ [e])) :
    (((twiceM n ss').filter st).length : Int) = ((twiceM n ss).filter st).length + (if (decide (prevM n e ∈ ss) && st e) = true then 1 else 0) + (if (decide (nextM n e ∈ ss) && st (nextM n e)) = true then 1 else 0) := by
  have hm : ∀ x, x ∈ ss' ↔ x ∈ ss ∨ x = e := fun x => by
    rw [hp.mem_iff, List.mem_append, List.mem_singleton]
  have hpe : prevM n e ≠ e := by
    unfold prevM
    by_cases h0 : e = 0
    · subst h0
      rw [Nat.zero_add, Nat.mod_eq_of_lt (by omega)]
      omega
    · rw [show e + (n - 1) = (e - 1) + n by omega, Nat.add_mod_right, Nat.mod_eq_of_lt (by omega)]
      omega
  unfold twiceM
  rw [List.filter_filter, List.filter_filter, (hp.filter fun a => st a && decide (prevM n a ∈ ss')).length_eq, List.filter_append, List.length_append]
  have h1 : ([e].filter fun a => st a && decide (prevM n a ∈ ss')).length = if (decide (prevM n e ∈ ss) && st e) = true then 1 else 0 := by
    have h : (st e && decide (prevM n e ∈ ss')) = (decide (prevM n e ∈ ss) && st e) := by
      rw [Bool.and_comm]
      congr 1
      exact decide_eq_decide.mpr ⟨fun h => ((hm _).mp h).elim id fun z => absurd z hpe, fun h => (hm _).mpr (Or.inl h)⟩
    rw [List.filter_cons, h]
    split <;> rfl
  have h2 : (ss.filter fun a => st a && decide (prevM n a ∈ ss')).length = (ss.filter fun a => st a && decide (prevM n a ∈ ss)).length + (ss.filter fun s => decide (s = nextM n e) && st (nextM n e)).length := by
    have key : ∀ l : List Nat, (∀ s ∈ l, s < n) → (l.filter fun a => st a && decide (prevM n a ∈ ss')).length = (l.filter fun a => st a && decide (prevM n a ∈ ss)).length + (l.filter fun s => decide (s = nextM n e) && st (nextM n e)).length := fun l hll => by
      induction l with
      | nil => rfl
      | cons a r ih =>
        have ih := ih fun s hs => hll s (List.mem_cons_of_mem _ hs)
        have han := hll a (List.mem_cons_self ..)
        rw [List.filter_cons, List.filter_cons, List.filter_cons]
        by_cases hx : a = nextM n e
        · subst hx
          have hpn := prev_next he
          rw [hpn, decide_eq_true ((hm e).mpr (Or.inr rfl)), decide_eq_false hes, decide_eq_true rfl]
          cases hst : st (nextM n e) with
          | true =>
            simp only [hst] at ih ⊢
            simp at ih ⊢
            omega
          | false =>
            simp only [hst] at ih ⊢
            simp at ih ⊢
            omega
        · have hpa : prevM n a ≠ e := fun z => hx (by rw [← z, next_prev han])
          have hiff : decide (prevM n a ∈ ss') = decide (prevM n a ∈ ss) := decide_eq_decide.mpr ⟨fun h => ((hm _).mp h).elim id fun z => absurd z hpa, fun h => (hm _).mpr (Or.inl h)⟩
          rw [hiff, decide_eq_false hx, Bool.false_and, if_neg (by decide : ¬ (false = true))]
          split
          · rw [List.length_cons, List.length_cons, ih]
            omega
          · exact ih
    exact key ss hl
  rw [h1, h2, one_count (asc_nodup ha)]
  split <;> split <;> simp <;> omega
theorem law_more : LawMore := fun q size e ss' hv hs h3 he hes hp ha' => by
  have hss := valid_ss hv
  have e0 : countM q size none - countM (q.1, q.2.1, ss') size none = shutM q.1 (scaleM size q.2.1) ss' none - shutM q.1 (scaleM size q.2.1) q.2.2 none := by
    unfold countM belowM
    show closedM q.1 (scaleM size q.2.1) none - _ - (closedM q.1 (scaleM size q.2.1) none - shutM q.1 (scaleM size q.2.1) ss' none) = _
    omega
  rw [e0]
  unfold shutM
  rw [scale_len, if_neg (by omega), if_neg (by omega), perm_sum hp, List.map_append, List.sum_append]
  have hs1 : ([e].map fun s => spanCnt (spanAt q.1 (scaleM size q.2.1) s) none).sum = sideM q.1 (scaleM size q.2.1) e := by
    unfold sideM
    rw [scale_len, if_neg (by omega)]
    simp
  rw [hs1, twice_more (fun s => stakeM q.1 (scaleM size q.2.1) s none) h3 hv.2.2.2.1 hss he hes hp]
  have l0 : lostAt q size e 0 = if (decide (prevM q.2.1.length e ∈ q.2.2) && stakeM q.1 (scaleM size q.2.1) e none) = true then 1 else 0 := by
    unfold lostAt
    rw [show besideM q.2.1.length e 0 = prevM q.2.1.length e from rfl, show spotM q.2.1.length e 0 = e % q.2.1.length from rfl, Nat.mod_eq_of_lt he, stake_none he]
  have l1 : lostAt q size e 1 = if (decide (nextM q.2.1.length e ∈ q.2.2) && stakeM q.1 (scaleM size q.2.1) (nextM q.2.1.length e) none) = true then 1 else 0 := by
    unfold lostAt
    rw [show besideM q.2.1.length e 1 = nextM q.2.1.length e from rfl, show spotM q.2.1.length e 1 = nextM q.2.1.length e from rfl, stake_none (next_lt e (by omega))]
  rw [l0, l1]
  omega
end GF
set_option Elab.async false
set_option linter.all false
set_option maxRecDepth 100000
set_option maxHeartbeats 1000000
/-! The plain law: all stakes lie below the highest row. -/
namespace GF
theorem gcd_next (h l q : Int) : Int.gcd l (h - q * l) = Int.gcd h l := by
  refine Nat.dvd_antisymm (Int.dvd_gcd ?_ (Int.gcd_dvd_left ..)) (Int.dvd_gcd (Int.gcd_dvd_right ..) ?_)
  · have h1 := Int.gcd_dvd_right l (h - q * l)
    have h2 := Int.gcd_dvd_left l (h - q * l)
    have h3 := Int.dvd_add h1 (Int.dvd_mul_of_dvd_right (b := q) h2)
    rwa [Int.sub_add_cancel] at h3
  · exact Int.dvd_sub (Int.gcd_dvd_left ..) (Int.dvd_mul_of_dvd_right (Int.gcd_dvd_right ..))
theorem bez_inv (one other : Int) : ∀ (k : Nat) (h l : I3), h.1 = h.2.1 * one + h.2.2 * other → l.1 = l.2.1 * one + l.2.2 * other → l.1.natAbs < k → (bezF k h l).1 = (bezF k h l).2.1 * one + (bezF k h l).2.2 * other ∧ (bezF k h l).1.natAbs = Int.gcd h.1 l.1
  | 0, h, l, _, _, hk => by omega
  | k + 1, h, l, e1, e2, hk => by
    rw [bezF]
    by_cases hl : l.1 = 0
    · rw [if_pos hl, hl, Int.gcd_zero_right]
      exact ⟨e1, rfl⟩
    · rw [if_neg hl]
      have hs := bz_small h.1 l.1 hl
      have e3 : (bzNext h l).1 = (bzNext h l).2.1 * one + (bzNext h l).2.2 * other := by
        show h.1 - h.1.fdiv l.1 * l.1 = (h.2.1 - h.1.fdiv l.1 * l.2.1) * one + (h.2.2 - h.1.fdiv l.1 * l.2.2) * other
        generalize h.1.fdiv l.1 = q
        rw [e1, e2, Int.sub_mul, Int.sub_mul, Int.mul_add, Int.mul_assoc, Int.mul_assoc]
        omega
      have ih := bez_inv one other k l (bzNext h l) e2 e3 (by show (h.1 - h.1.fdiv l.1 * l.1).natAbs < k; omega)
      refine ⟨ih.1, ih.2.trans ?_⟩
      exact gcd_next h.1 l.1 _
theorem bez_one {one other : Int} (hg : Int.gcd one other = 1) : (bezM one other).1 * one + (bezM one other).2 * other = 1 := by
  have h := bez_inv one other (other.natAbs + 1) (one, 1, 0) (other, 0, 1) (by show one = 1 * one + 0 * other; omega) (by show other = 0 * one + 1 * other; omega) (Nat.lt_succ_self _)
  have h1 : (bezL one other).1 = (bezL one other).2.1 * one + (bezL one other).2.2 * other := h.1
  have h2 : (bezL one other).1.natAbs = 1 := h.2.trans hg
  show sgn (bezL one other).1 * (bezL one other).2.1 * one + sgn (bezL one other).1 * (bezL one other).2.2 * other = 1
  rw [Int.mul_assoc, Int.mul_assoc, ← Int.mul_add, ← h1]
  unfold sgn
  split <;> omega
theorem le_fdiv {b x M : Int} (hb : 0 < b) (h : b * x ≤ M) : x ≤ M.fdiv b := by
  rw [Int.fdiv_eq_ediv_of_nonneg _ (by omega)]
  exact Int.le_ediv_of_mul_le hb (by rw [Int.mul_comm]; exact h)
theorem fdiv_mul_le {b M : Int} (hb : 0 < b) : b * M.fdiv b ≤ M := by
  rw [Int.fdiv_eq_ediv_of_nonneg _ (by omega)]
  have := Int.mul_ediv_add_emod M b
  have := Int.emod_nonneg M (show b ≠ 0 by omega)
  omega
theorem rup_ge {b t : Int} (hb : 0 < b) : t ≤ b * rup t b := by
  have := fdiv_mul_le (M := -t) hb
  unfold rup
  rw [Int.mul_neg]
  omega
theorem mx_left {i j : Int} (h : j ≤ i) : mx i j = i := by
  unfold mx
  rw [if_neg (by omega)]
theorem mn_left {i j : Int} (h : i ≤ j) : mn i j = i := by
  unfold mn
  rw [if_neg (by omega)]
theorem spanCnt_row (lo hi rise base row : Int) : spanCnt (some (lo, hi, rise, base)) (some row) = if rise > 0 then mx 0 (mn hi ((row - base).fdiv rise) - lo + 1)
    else if rise < 0 then mx 0 (hi - mx lo (rup (base - row) (-rise)) + 1)
    else if base > row then 0
    else mx 0 (hi - lo + 1) := rfl
/-- on a side all rows are at most its higher end's -/
theorem span_row {b : Int} {p q : P2} {M : Int} (hb : 0 < b) (hne : p ≠ q) (hp : p.2 ≤ M) (hq : q.2 ≤ M) : spanCnt (spanM b p q) (some (M.fdiv b)) = spanCnt (spanM b p q) none := by
  have hg : 0 < Int.gcd (q.1 - p.1) (q.2 - p.2) := by
    rcases Nat.eq_zero_or_pos (Int.gcd (q.1 - p.1) (q.2 - p.2)) with z | z
    · rw [Int.gcd_eq_zero_iff] at z
      exact absurd (Prod.ext (show p.1 = q.1 by omega) (show p.2 = q.2 by omega)) hne
    · exact z
  unfold spanM
  simp only
  have hgi : (0 : Int) < (Int.gcd (q.1 - p.1) (q.2 - p.2) : Int) := by omega
  have e1 := Int.mul_ediv_cancel' (Int.gcd_dvd_left (q.1 - p.1) (q.2 - p.2))
  have e2 := Int.mul_ediv_cancel' (Int.gcd_dvd_right (q.1 - p.1) (q.2 - p.2))
  have e3 := Int.gcd_ediv_gcd_ediv_gcd hg
  rw [Int.fdiv_eq_ediv_of_nonneg (q.1 - p.1) (by omega), Int.fdiv_eq_ediv_of_nonneg (q.2 - p.2) (by omega)]
  generalize (q.1 - p.1) / (Int.gcd (q.1 - p.1) (q.2 - p.2) : Int) = W at *
  generalize (q.2 - p.2) / (Int.gcd (q.1 - p.1) (q.2 - p.2) : Int) = U at *
  generalize (Int.gcd (q.1 - p.1) (q.2 - p.2) : Int) = g at *
  have hbz := bez_one e3
  generalize (bezM W U).1 = l at *
  generalize (bezM W U).2 = r at *
  by_cases hm : (W * p.2 - U * p.1).fmod b ≠ 0
  · rw [if_pos hm]
    rfl
  · rw [if_neg hm]
    have hm : (W * p.2 - U * p.1).fmod b = 0 := by
      by_cases z : (W * p.2 - U * p.1).fmod b = 0
      · exact z
      · exact absurd z hm
    have hbm : b * (W * p.2 - U * p.1).fdiv b = W * p.2 - U * p.1 := by
      have := Int.mul_fdiv_add_fmod (W * p.2 - U * p.1) b
      omega
    have hq2 : W * q.2 - U * q.1 = W * p.2 - U * p.1 := by
      have hx : q.1 = p.1 + g * W := by omega
      have hy : q.2 = p.2 + g * U := by omega
      rw [hx, hy, Int.mul_add, Int.mul_add, Int.mul_left_comm W g U, Int.mul_left_comm U g W, Int.mul_comm W U]
      omega
    generalize hmm : (W * p.2 - U * p.1).fdiv b = m at *
    -- the row of a point of the side
    have key : ∀ c : P2, W * c.2 - U * c.1 = W * p.2 - U * p.1 → U * (l * c.1 + r * c.2) + b * (l * m) = c.2 := fun c hc => by
      have h1 : b * (l * m) = l * (W * c.2 - U * c.1) := by rw [Int.mul_left_comm, hbm, hc]
      have h2 : (l * W + r * U) * c.2 = c.2 := by rw [hbz, Int.one_mul]
      have a1 : U * (l * c.1) = l * (U * c.1) := Int.mul_left_comm _ _ _
      have a2 : U * (r * c.2) = r * U * c.2 := by rw [Int.mul_left_comm, Int.mul_assoc]
      have a3 : l * (W * c.2) = l * W * c.2 := (Int.mul_assoc _ _ _).symm
      have h2' : l * W * c.2 + r * U * c.2 = c.2 := by rw [← Int.add_mul]; exact h2
      rw [h1, Int.mul_add, Int.mul_sub, a1, a2, a3]
      omega
    have kp := key p rfl
    have kq := key q hq2
    show spanCnt (some (rup (l * p.1 + r * p.2) b, (l * q.1 + r * q.2).fdiv b, U, l * m)) (some (M.fdiv b)) = mx 0 ((l * q.1 + r * q.2).fdiv b - rup (l * p.1 + r * p.2) b + 1)
    have hlo := rup_ge (t := l * p.1 + r * p.2) hb
    have hhi := fdiv_mul_le (M := l * q.1 + r * q.2) hb
    generalize rup (l * p.1 + r * p.2) b = lo at *
    generalize (l * q.1 + r * q.2).fdiv b = hi at *
    generalize l * p.1 + r * p.2 = lw at *
    generalize l * q.1 + r * q.2 = hg2 at *
    have hl : ∀ x : Int, b * (U * x + l * m) ≤ M → U * x + l * m ≤ M.fdiv b := fun x h => le_fdiv hb h
    have hexp : ∀ x : Int, b * (U * x + l * m) = U * (b * x) + b * (l * m) := fun x => by rw [Int.mul_add, Int.mul_left_comm]
    rw [spanCnt_row]
    by_cases h1 : U > 0
    · rw [if_pos h1]
      have h2 : U * (b * hi) ≤ U * hg2 := Int.mul_le_mul_of_nonneg_left hhi (by omega)
      have h3 := hl hi (by rw [hexp]; omega)
      rw [mn_left]
      refine le_fdiv h1 ?_
      omega
    · rw [if_neg h1]
      by_cases h2 : U < 0
      · rw [if_pos h2]
        have h3 : U * (b * lo) ≤ U * lw := Int.mul_le_mul_of_nonpos_left (by omega) hlo
        have h4 := hl lo (by rw [hexp]; omega)
        have h5 : -lo ≤ (-(l * m - M.fdiv b)).fdiv (-U) := le_fdiv (by omega) (by rw [Int.neg_mul_neg]; omega)
        have h6 : rup (l * m - M.fdiv b) (-U) ≤ lo := by
          unfold rup
          omega
        rw [mx_left h6]
      · rw [if_neg h2]
        have hU : U = 0 := by omega
        have h3 := hl 0 (by rw [hexp, hU]; rw [hU] at kp; omega)
        rw [if_neg (by rw [hU] at h3; omega)]
theorem stake_row {b : Int} {cs : List P2} {n : Nat} {M : Int} (hb : 0 < b) (h : (at_ cs n).2 ≤ M) : stakeM b cs n (some (M.fdiv b)) = stakeM b cs n none := by
  unfold stakeM
  by_cases hx : (decide ((at_ cs n).1.fmod b = 0) && decide (0 = (at_ cs n).2.fmod b)) = true
  · rw [hx]
    rw [Bool.and_eq_true] at hx
    have hy := of_decide_eq_true hx.2
    have e := Int.mul_fdiv_add_fmod (at_ cs n).2 b
    have hle := le_fdiv (x := (at_ cs n).2.fdiv b) (M := M) hb (by omega)
    have hmul : b * (at_ cs n).2.fdiv b ≤ b * M.fdiv b := Int.mul_le_mul_of_nonneg_left hle (by omega)
    have : (at_ cs n).2 ≤ M.fdiv b * b := by rw [Int.mul_comm]; omega
    show (true && decide _) = _
    rw [decide_eq_true this]
  · have hx : (decide ((at_ cs n).1.fmod b = 0) && decide (0 = (at_ cs n).2.fmod b)) = false := by simpa using hx
    rw [hx]
    rfl
theorem edges_last {b M : Int} (hb : 0 < b) : ∀ (S : List PP) (fst : Option Int), (∀ q ∈ S, q.2.2 ≤ M) → ∀ e ∈ edgesGo b fst S, e.2.2.2.2 ≤ M.fdiv b
  | [], _, _, e, he => by simp [edgesGo] at he
  | q :: S, fst, hS, e, he => by
    rw [edgesGo] at he
    rcases List.mem_cons.mp he with rfl | he
    · show q.2.2.fdiv b ≤ M.fdiv b
      exact le_fdiv hb (Int.le_trans (fdiv_mul_le hb) (hS q (List.mem_cons_self ..)))
    · exact edges_last hb S _ (fun q hq => hS q (List.mem_cons_of_mem _ hq)) e he
theorem field_mem {cs : List P2} (h1 : 1 ≤ cs.length) {q : PP} (hq : q ∈ fieldM cs) : q.1 ∈ cs ∧ q.2 ∈ cs := by
  unfold fieldM at hq
  split at hq
  · exact pairs_mem h1 hq
  · cases hq
theorem edge_row {e : Edge} {L sg : Int} (h : e.2.2.2.2 ≤ L) : edgeSumM e (some L) sg = edgeSumM e none sg := by
  unfold edgeSumM
  simp only
  rw [mn_left h]
theorem law_below : LawBelow := fun q size hv hs => by
  have hfen := valid_fen hv
  have hb := hfen.1
  have hl := scale_len size q.2.1
  have h1 : 1 ≤ (scaleM size q.2.1).length := by rw [hl]; exact hfen.2.2.1
  have hall := valid_all hv hs
  have hL : (boxAt q.1 q.2.1 size 1).2 = (maxL ((scaleM size q.2.1).map Prod.snd)).fdiv q.1 := by
    show (maxL (q.2.1.map fun p => size * coord 1 p)).fdiv q.1 = _
    unfold scaleM
    rw [List.map_map]
    congr 2
    refine List.map_congr_left fun p _ => ?_
    show size * p.2 = p.2 * size
    exact Int.mul_comm _ _
  rw [hL]
  have hM : ∀ p ∈ scaleM size q.2.1, p.2 ≤ maxL ((scaleM size q.2.1).map Prod.snd) := fun p hp => (maxL_ok _ (by rw [List.length_map]; omega)).2 _ (List.mem_map.mpr ⟨p, hp, rfl⟩)
  have hside : ∀ n, n < (pairsM (scaleM size q.2.1)).length → n < q.2.1.length → 2 ≤ q.2.1.length → spanCnt (spanAt q.1 (scaleM size q.2.1) n) (some ((maxL ((scaleM size q.2.1).map Prod.snd)).fdiv q.1)) = spanCnt (spanAt q.1 (scaleM size q.2.1) n) none := fun n g1 g2 g3 => by
    have hso := side_ok hv.2.2.1 hs hall g1 g2 g3
    have hm := pairs_mem h1 (List.mem_of_getElem? (pair_get g1))
    exact span_row hb hso.2.1 (hM _ hm.1) (hM _ hm.2)
  have hst : ∀ n, n < q.2.1.length → stakeM q.1 (scaleM size q.2.1) n (some ((maxL ((scaleM size q.2.1).map Prod.snd)).fdiv q.1)) = stakeM q.1 (scaleM size q.2.1) n none := fun n hn => stake_row hb (hM _ (mem_at (by rw [hl]; exact hn)))
  unfold countM belowM
  congr 1
  · unfold closedM
    by_cases c1 : (scaleM size q.2.1).length = 1
    · rw [if_pos c1, if_pos c1, hst 0 (by omega)]
    · rw [if_neg c1, if_neg c1]
      by_cases c2 : (scaleM size q.2.1).length = 2
      · rw [if_pos c2, if_pos c2]
        refine hside 0 ?_ (by omega) (by omega)
        unfold pairsM
        rw [if_pos (by omega)]
        simp
      · rw [if_neg c2, if_neg c2]
        have hlast : lastM q.1 (scaleM size q.2.1) (some ((maxL ((scaleM size q.2.1).map Prod.snd)).fdiv q.1)) = lastM q.1 (scaleM size q.2.1) none := mn_left (Int.le_refl _)
        have hr : ((rightsM q.1 (scaleM size q.2.1)).map fun e => edgeSumM e (some ((maxL ((scaleM size q.2.1).map Prod.snd)).fdiv q.1)) 1) = (rightsM q.1 (scaleM size q.2.1)).map fun e => edgeSumM e none 1 := List.map_congr_left fun e he => edge_row (edges_last hb _ _ (fun p hp => hM _ (field_mem h1 (List.mem_filter.mp (sortM_mem hp)).1).2) e he)
        have hlf : ((leftsM q.1 (scaleM size q.2.1)).map fun e => edgeSumM e (some ((maxL ((scaleM size q.2.1).map Prod.snd)).fdiv q.1)) (-1)) = (leftsM q.1 (scaleM size q.2.1)).map fun e => edgeSumM e none (-1) := List.map_congr_left fun e he => edge_row (edges_last hb _ _ (fun p hp => by
          obtain ⟨r, hr, rfl⟩ := List.mem_map.mp (sortM_mem hp)
          exact hM _ (field_mem h1 (List.mem_filter.mp hr).1).1) e he)
        rw [hlast, hr, hlf]
  · unfold shutM
    by_cases c3 : (scaleM size q.2.1).length < 3
    · rw [if_pos c3, if_pos c3]
      congr 2
      exact List.filter_congr fun e he => hst e (valid_ss hv e he)
    · rw [if_neg c3, if_neg c3]
      have hsp : (q.2.2.map fun s => spanCnt (spanAt q.1 (scaleM size q.2.1) s) (some ((maxL ((scaleM size q.2.1).map Prod.snd)).fdiv q.1))) = q.2.2.map fun s => spanCnt (spanAt q.1 (scaleM size q.2.1) s) none := List.map_congr_left fun e he => hside e (by rw [pairs_len (by omega), hl]; exact valid_ss hv e he) (valid_ss hv e he) (by omega)
      rw [hsp]
      congr 3
      exact List.filter_congr fun e he => hst e (valid_ss hv e (List.mem_filter.mp he).1)
end GF
set_option Elab.async false
set_option linter.all false
set_option maxRecDepth 100000
set_option maxHeartbeats 1000000
/-! The ten corners make a fence. -/
namespace GF
theorem turn_affine (sc l d : Int) (a b c : P2) : turnM (l + sc * a.1, d + sc * a.2) (l + sc * b.1, d + sc * b.2) (l + sc * c.1, d + sc * c.2) = sc * sc * turnM a b c := by
  unfold turnM
  show (l + sc * b.1 - (l + sc * a.1)) * (d + sc * c.2 - (d + sc * a.2)) - (d + sc * b.2 - (d + sc * a.2)) * (l + sc * c.1 - (l + sc * a.1)) = _
  have e1 : l + sc * b.1 - (l + sc * a.1) = sc * (b.1 - a.1) := by rw [Int.mul_sub]; omega
  have e2 : d + sc * c.2 - (d + sc * a.2) = sc * (c.2 - a.2) := by rw [Int.mul_sub]; omega
  have e3 : d + sc * b.2 - (d + sc * a.2) = sc * (b.2 - a.2) := by rw [Int.mul_sub]; omega
  have e4 : l + sc * c.1 - (l + sc * a.1) = sc * (c.1 - a.1) := by rw [Int.mul_sub]; omega
  rw [e1, e2, e3, e4, mul4, mul4 sc (b.2 - a.2), ← Int.mul_sub]
theorem ten_at (sc l d : Int) {i : Nat} (h : i < 10) : at_ (tenM sc l d) i = (l + sc * (at_ tenL i).1, d + sc * (at_ tenL i).2) := by
  have h1 : (tenM sc l d)[i]? = some (l + sc * (at_ tenL i).1, d + sc * (at_ tenL i).2) := by
    rw [tenM, List.getElem?_map, at_get (show i < tenL.length from h)]
    rfl
  rw [at_get (by rw [tenM, List.length_map]; exact h)] at h1
  exact Option.some.inj h1
theorem ten_ok : TenOk := fun far sc l d h20 h30 hs0 hs1 hl0 hl1 hd0 hd1 => by
  have hlen : (tenM sc l d).length = 10 := by rw [tenM, List.length_map]; rfl
  have hsc : 0 < sc * sc := Int.mul_pos hs0 hs0
  have turns : ∀ i, i < 10 → 0 < turnM (at_ tenL i) (at_ tenL ((i + 1) % 10)) (at_ tenL ((i + 2) % 10)) := by decide
  have fan : ∀ i, i < 9 → 1 ≤ i → 0 < turnM (at_ tenL 0) (at_ tenL i) (at_ tenL (i + 1)) := by decide
  refine ⟨by omega, by omega, fun p hp => ?_, fun h => by omega, fun _ => ⟨fun p hp => ?_, fun i hi => ?_, fun i h1 h2 => ?_⟩⟩
  · obtain ⟨a, ha, rfl⟩ := List.mem_map.mp hp
    have hf : ∀ x : Int, -far ≤ x → x ≤ far → x.natAbs ≤ 10 ^ 30 := fun x g1 g2 => Nat.le_trans (show x.natAbs ≤ far.natAbs by omega) (nat30 (by omega) h30)
    clear h30
    simp only [tenL, List.mem_cons, List.not_mem_nil, or_false] at ha
    rcases ha with rfl | rfl | rfl | rfl | rfl | rfl | rfl | rfl | rfl | rfl <;> exact ⟨hf _ (by show -far ≤ l + sc * _; omega) (by show l + sc * _ ≤ far; omega), hf _ (by show -far ≤ d + sc * _; omega) (by show d + sc * _ ≤ far; omega)⟩
  · clear h30
    obtain ⟨a, ha, rfl⟩ := List.mem_map.mp hp
    rw [ten_at sc l d (by decide)]
    unfold ptlt
    have e0 : at_ tenL 0 = (0, 0) := rfl
    rw [e0]
    simp only [tenL, List.mem_cons, List.not_mem_nil, or_false] at ha
    rcases ha with rfl | rfl | rfl | rfl | rfl | rfl | rfl | rfl | rfl | rfl <;> (simp only; omega)
  · rw [hlen] at hi ⊢
    rw [ten_at sc l d hi, ten_at sc l d (Nat.mod_lt _ (by decide)), ten_at sc l d (Nat.mod_lt _ (by decide)), turn_affine]
    exact Int.mul_pos hsc (turns i hi)
  · rw [hlen] at h2
    rw [ten_at sc l d (by decide), ten_at sc l d (by omega), ten_at sc l d h2, turn_affine]
    exact Int.mul_pos hsc (fan i (by omega) h1)
end GF
set_option Elab.async false
set_option linter.all false
set_option maxRecDepth 100000
set_option maxHeartbeats 1000000
/-! The chain: each turn to the left, all points on its left. -/
namespace GF
def cr (A B : P2) : Int := A.1 * B.2 - A.2 * B.1
def sb (p q : P2) : P2 := (p.1 - q.1, p.2 - q.2)
def lp (A : P2) : Prop := 0 < A.1 ∨ (A.1 = 0 ∧ 0 < A.2)
def lpz (A : P2) : Prop := lp A ∨ (A.1 = 0 ∧ A.2 = 0)
theorem lt_lp {p q : P2} : ptlt p q ↔ lp (sb q p) := by
  unfold ptlt lp sb
  simp only
  omega
theorem turn_cr (a b c : P2) : turnM a b c = cr (sb b a) (sb c a) := rfl
theorem turn_cr2 (a b c : P2) : turnM a b c = cr (sb b a) (sb c b) := by
  rw [turn_cr]
  unfold cr sb
  simp only
  have e1 : c.2 - a.2 = (c.2 - b.2) + (b.2 - a.2) := by omega
  have e2 : c.1 - a.1 = (c.1 - b.1) + (b.1 - a.1) := by omega
  rw [e1, e2, Int.mul_add, Int.mul_add, Int.mul_comm (b.2 - a.2) (b.1 - a.1)]
  omega
theorem cr_neg (A B : P2) : cr A B = -cr B A := by
  unfold cr
  rw [Int.mul_comm B.1, Int.mul_comm B.2]
  omega
theorem turn_cyc (a b c : P2) : turnM a b c = turnM b c a := by
  rw [turn_cr2 a b c, turn_cr b c a]
  rw [cr_neg (sb c b) (sb a b)]
  unfold cr sb
  simp only
  have e1 : a.1 - b.1 = -(b.1 - a.1) := by omega
  have e2 : a.2 - b.2 = -(b.2 - a.2) := by omega
  rw [e1, e2, Int.neg_mul, Int.neg_mul]
  omega
theorem tr {A B C : P2} (hA : lpz A) (hB : lp B) (hC : lpz C) (h1 : 0 ≤ cr A B) (h2 : 0 ≤ cr B C) : 0 ≤ cr A C := by
  have hA1 : 0 ≤ A.1 := by unfold lpz lp at hA; omega
  have hC1 : 0 ≤ C.1 := by unfold lpz lp at hC; omega
  rcases hB with hB | ⟨hB, hB2⟩
  · have e : B.1 * cr A C = C.1 * cr A B + A.1 * cr B C := by
      unfold cr
      rw [Int.mul_sub, Int.mul_sub, Int.mul_sub]
      have a1 : B.1 * (A.1 * C.2) = A.1 * (B.1 * C.2) := Int.mul_left_comm _ _ _
      have a2 : B.1 * (A.2 * C.1) = C.1 * (A.2 * B.1) := by rw [Int.mul_left_comm, Int.mul_comm B.1 C.1, Int.mul_left_comm]
      have a3 : C.1 * (A.1 * B.2) = A.1 * (B.2 * C.1) := by rw [Int.mul_left_comm, Int.mul_comm C.1]
      omega
    have h3 : 0 ≤ B.1 * cr A C := by
      rw [e]
      exact Int.add_nonneg (Int.mul_nonneg hC1 h1) (Int.mul_nonneg hA1 h2)
    rcases Int.lt_or_le (cr A C) 0 with z | z
    · have := Int.mul_neg_of_pos_of_neg hB z
      omega
    · exact z
  · have h4 : cr B C = -(B.2 * C.1) := by
      unfold cr
      rw [hB]
      omega
    have hC0 : C.1 = 0 := by
      rcases Int.lt_or_eq_of_le hC1 with z | z
      · have := Int.mul_pos hB2 z
        omega
      · exact z.symm
    have hC2 : 0 ≤ C.2 := by unfold lpz lp at hC; omega
    unfold cr
    rw [hC0, Int.mul_zero, Int.sub_zero]
    exact Int.mul_nonneg hA1 hC2
theorem sd {A C : P2} (hA : lp A) (hC : lp C) (h0 : cr A C = 0) : ∃ α γ : Int, 0 < α ∧ 0 < γ ∧ ∀ X, α * cr C X = γ * cr A X := by
  unfold cr at h0
  rcases hA with hA | ⟨hA, hA2⟩
  · have hC1 : 0 < C.1 := by
      rcases hC with z | ⟨z, z2⟩
      · exact z
      · rw [z, Int.mul_zero] at h0
        have := Int.mul_pos hA z2
        omega
    refine ⟨A.1, C.1, hA, hC1, fun X => ?_⟩
    unfold cr
    rw [Int.mul_sub, Int.mul_sub]
    have a1 : A.1 * (C.1 * X.2) = C.1 * (A.1 * X.2) := Int.mul_left_comm _ _ _
    have a2 : A.1 * (C.2 * X.1) = A.1 * C.2 * X.1 := (Int.mul_assoc _ _ _).symm
    have a3 : C.1 * (A.2 * X.1) = A.2 * C.1 * X.1 := by rw [← Int.mul_assoc, Int.mul_comm C.1]
    have a4 : A.1 * C.2 = A.2 * C.1 := by omega
    rw [a1, a2, a3, a4]
  · rw [hA, Int.zero_mul] at h0
    have hC1 : C.1 = 0 := by
      rcases hC with z | ⟨z, _⟩
      · have := Int.mul_pos hA2 z
        omega
      · exact z
    have hC2 : 0 < C.2 := by
      rcases hC with z | ⟨_, z⟩
      · omega
      · exact z
    refine ⟨A.2, C.2, hA2, hC2, fun X => ?_⟩
    unfold cr
    simp only [hA, hC1, Int.zero_mul, Int.zero_sub, Int.mul_neg]
    rw [Int.mul_left_comm]
theorem sd_pos {A C X : P2} (hA : lp A) (hC : lp C) (h0 : cr A C = 0) (h : 0 < cr A X) : 0 < cr C X := by
  obtain ⟨α, γ, h1, h2, h3⟩ := sd hA hC h0
  have h4 : 0 < α * cr C X := by rw [h3]; exact Int.mul_pos h2 h
  rcases Int.lt_or_le 0 (cr C X) with z | z
  · exact z
  · have := Int.mul_nonpos_of_nonneg_of_nonpos (show 0 ≤ α by omega) z
    omega
theorem sd_nn {A C X : P2} (hA : lp A) (hC : lp C) (h0 : cr A C = 0) (h : 0 ≤ cr A X) : 0 ≤ cr C X := by
  obtain ⟨α, γ, h1, h2, h3⟩ := sd hA hC h0
  have h4 : 0 ≤ α * cr C X := by rw [h3]; exact Int.mul_nonneg (by omega) h
  rcases Int.lt_or_le (cr C X) 0 with z | z
  · have := Int.mul_neg_of_pos_of_neg h1 z
    omega
  · exact z
/-! ### the stack, its top first -/
def Conv : List P2 → Prop
  | c :: b :: a :: r => 0 < turnM a b c ∧ Conv (b :: a :: r)
  | _ => True
def Lft (x : P2) : List P2 → Prop
  | b :: a :: r => 0 ≤ turnM a b x ∧ Lft x (a :: r)
  | _ => True
theorem Conv.tail {b : P2} {r : List P2} (h : Conv (b :: r)) : Conv r := by
  match r, h with
  | [], _ => trivial
  | [_], _ => trivial
  | _ :: _ :: _, h => exact h.2
theorem Lft.tail {x b : P2} {r : List P2} (h : Lft x (b :: r)) : Lft x r := by
  match r, h with
  | [], _ => trivial
  | _ :: _, h => exact h.2
theorem lt_trans {a b c : P2} (h1 : ptlt a b) (h2 : ptlt b c) : ptlt a c := by
  unfold ptlt at *
  omega
theorem sb_neg (p q : P2) : cr (sb p q) (sb q p) = 0 := by
  unfold cr sb
  simp only
  have e1 : q.1 - p.1 = -(p.1 - q.1) := by omega
  have e2 : q.2 - p.2 = -(p.2 - q.2) := by omega
  rw [e1, e2, Int.mul_neg, Int.mul_neg, Int.mul_comm (p.2 - q.2)]
  omega
theorem cr_sb_neg (A p q : P2) : cr A (sb p q) = -cr A (sb q p) := by
  unfold cr sb
  simp only
  have e1 : p.1 - q.1 = -(q.1 - p.1) := by omega
  have e2 : p.2 - q.2 = -(q.2 - p.2) := by omega
  rw [e1, e2, Int.mul_neg, Int.mul_neg]
  omega
theorem turn_self (b p : P2) : turnM b p b = 0 := by
  rw [turn_cr]
  unfold cr sb
  simp
theorem turn_same (b p : P2) : turnM b p p = 0 := by
  rw [turn_cr2]
  unfold cr sb
  simp
/-- a point beyond, on the left of the last edge, is on the left of all -/
theorem lft_conv {p : P2} : ∀ (b a : P2) (r : List P2), Conv (b :: a :: r) → (b :: a :: r).Pairwise (fun x y => ptlt y x) → ptlt b p → 0 ≤ turnM a b p → Lft p (b :: a :: r)
  | b, a, [], _, _, _, ht => ⟨ht, trivial⟩
  | b, a, z :: r, hc, hd, hp, ht => by
    rw [List.pairwise_cons] at hd
    have hba := hd.1 a (List.mem_cons_self ..)
    have hd2 := hd.2
    rw [List.pairwise_cons] at hd2
    have haz := hd2.1 z (List.mem_cons_self ..)
    refine ⟨ht, lft_conv a z r hc.2 hd.2 (lt_trans hba hp) ?_⟩
    have h1 : 0 < turnM z a b := hc.1
    rw [turn_cr2] at h1 ht
    have h3 := tr (Or.inl (lt_lp.mp haz)) (lt_lp.mp hba) (Or.inl (lt_lp.mp hp)) (by omega) ht
    rw [turn_cr2]
    have e : cr (sb a z) (sb p a) = cr (sb a z) (sb b a) + cr (sb a z) (sb p b) := by
      unfold cr sb
      simp only
      have e1 : p.2 - a.2 = (b.2 - a.2) + (p.2 - b.2) := by omega
      have e2 : p.1 - a.1 = (b.1 - a.1) + (p.1 - b.1) := by omega
      rw [e1, e2, Int.mul_add, Int.mul_add]
      omega
    omega
theorem not_lt {x b : P2} (h : ¬ ptlt x b) : lpz (sb x b) := by
  unfold ptlt at h
  unfold lpz lp sb
  simp only
  omega
theorem pops_inv {L : List P2} {p : P2} : ∀ (st : List P2) (top bot : P2), st.head? = some top → st.getLast? = some bot → Conv st → (∀ x ∈ L, Lft x st) → st.Pairwise (fun x y => ptlt y x) → (∀ y ∈ st, ptlt y p) → (∀ x ∈ L, ¬ ptlt x bot) → (∀ x ∈ L, ¬ ptlt x top → 0 ≤ turnM top p x) →
    Conv (p :: pops st p) ∧ (∀ x ∈ L, Lft x (p :: pops st p)) ∧ Lft p (p :: pops st p) ∧ (p :: pops st p).Pairwise (fun x y => ptlt y x) ∧ (p :: pops st p).getLast? = some bot
  | [], top, bot, h, _, _, _, _, _, _, _ => by cases h
  | [b], top, bot, h1, h2, _, _, _, hy, hbot, hP => by
    cases h1
    cases h2
    refine ⟨trivial, fun x hx => ⟨hP x hx (hbot x hx), trivial⟩, ⟨by rw [turn_same]; exact Int.le_refl _, trivial⟩, ?_, rfl⟩
    show [p, b].Pairwise _
    rw [List.pairwise_cons]
    exact ⟨fun y h => by rw [List.mem_singleton] at h; rw [h]; exact hy b (List.mem_cons_self ..), by simp⟩
  | b :: a :: r, top, bot, h1, h2, hc, hl, hd, hy, hbot, hP => by
    cases h1
    have hbp := hy b (List.mem_cons_self ..)
    have hd0 := hd
    rw [List.pairwise_cons] at hd
    have hab := hd.1 a (List.mem_cons_self ..)
    have hap := lt_trans hab hbp
    rw [pops]
    by_cases ht : turnM a b p ≤ 0
    · rw [if_pos ht]
      refine pops_inv (a :: r) a bot rfl (by rw [List.getLast?_cons_cons] at h2; exact h2) hc.tail (fun x hx => (hl x hx).tail) hd.2 (fun y h => hy y (List.mem_cons_of_mem _ h)) hbot fun x hx hxa => ?_
      have h3 : 0 ≤ turnM a b x := (hl x hx).1
      rw [turn_cr] at h3 ht ⊢
      rw [cr_neg] at ht
      exact tr (Or.inl (lt_lp.mp hap)) (lt_lp.mp hab) (not_lt hxa) (by omega) h3
    · rw [if_neg ht]
      have ht2 : 0 < turnM a b p := by omega
      refine ⟨⟨ht2, hc⟩, fun x hx => ⟨?_, hl x hx⟩, ⟨by rw [turn_same]; exact Int.le_refl _, lft_conv b a r hc hd0 hbp (by omega)⟩, ?_, ?_⟩
      · by_cases hxb : ptlt x b
        · have h3 : 0 ≤ turnM a b x := (hl x hx).1
          rw [turn_cr2, cr_sb_neg, ← cr_neg] at h3
          rw [turn_cr2] at ht2
          have h4 := tr (Or.inl (lt_lp.mp hxb)) (lt_lp.mp hab) (Or.inl (lt_lp.mp hbp)) h3 (by omega)
          rw [turn_cr, cr_sb_neg, ← cr_neg]
          exact h4
        · exact hP x hx hxb
      · rw [List.pairwise_cons]
        exact ⟨hy, hd0⟩
      · rw [List.getLast?_cons_cons]
        exact h2
structure CInv (Dn st : List P2) : Prop where
  ne : ∃ top bot, st.head? = some top ∧ Dn.getLast? = some top ∧ st.getLast? = some bot ∧ Dn.head? = some bot
  conv : Conv st
  lft : ∀ x ∈ Dn, Lft x st
  desc : st.Pairwise fun x y => ptlt y x
  sub : ∀ y ∈ st, y ∈ Dn
theorem asc_last {D : List P2} {top : P2} (h : D.Pairwise ptlt) (ht : D.getLast? = some top) {x : P2} (hx : x ∈ D) : x = top ∨ ptlt x top := by
  have hne : D ≠ [] := fun e => by rw [e] at ht; cases ht
  have e := List.dropLast_concat_getLast hne
  rw [List.getLast?_eq_some_getLast hne] at ht
  rw [Option.some.inj ht] at e
  rw [← e, List.pairwise_append] at h
  rw [← e] at hx
  rcases List.mem_append.mp hx with hx | hx
  · exact Or.inr (h.2.2 x hx top (List.mem_singleton.mpr rfl))
  · exact Or.inl (List.mem_singleton.mp hx)
theorem asc_head {D : List P2} {bot : P2} (h : D.Pairwise ptlt) (ht : D.head? = some bot) {x : P2} (hx : x ∈ D) : x = bot ∨ ptlt bot x := by
  cases D with
  | nil => cases ht
  | cons a r =>
    cases ht
    rw [List.pairwise_cons] at h
    rcases List.mem_cons.mp hx with e | hx
    · exact Or.inl e
    · exact Or.inr (h.1 x hx)
theorem lt_irr {x : P2} : ¬ ptlt x x := by
  unfold ptlt
  omega
theorem lt_asym {x y : P2} (h : ptlt x y) : ¬ ptlt y x := fun g => lt_irr (lt_trans h g)
theorem push_inv {Dn st : List P2} {p : P2} (I : CInv Dn st) (ha : (Dn ++ [p]).Pairwise ptlt) : CInv (Dn ++ [p]) (pushM st p) := by
  rw [List.pairwise_append] at ha
  obtain ⟨hD, _, hDp⟩ := ha
  have hp : ∀ x ∈ Dn, ptlt x p := fun x hx => hDp x hx p (List.mem_singleton.mpr rfl)
  obtain ⟨top, bot, h1, h2, h3, h4⟩ := I.ne
  obtain ⟨c1, c2, c3, c4, c5⟩ := pops_inv st top bot h1 h3 I.conv I.lft I.desc (fun y hy => hp y (I.sub y hy)) (fun x hx => by
    rcases asc_head hD h4 hx with e | e
    · rw [e]; exact lt_irr
    · exact lt_asym e) (fun x hx hxt => by
    rcases asc_last hD h2 hx with e | e
    · rw [e, turn_self]; exact Int.le_refl _
    · exact absurd e hxt)
  refine ⟨⟨p, bot, rfl, by simp, c5, by rw [List.head?_append, h4]; rfl⟩, c1, fun x hx => ?_, c4, fun y hy => ?_⟩
  · rcases List.mem_append.mp hx with hx | hx
    · exact c2 x hx
    · rw [List.mem_singleton] at hx
      rw [hx]
      exact c3
  · rcases List.mem_cons.mp hy with e | hy
    · rw [e]
      exact List.mem_append_right _ (List.mem_singleton.mpr rfl)
    · exact List.mem_append_left _ (I.sub y (pops_sub st p y hy))
theorem fold_inv : ∀ (line Dn st : List P2), (Dn ++ line).Pairwise ptlt → CInv Dn st → CInv (Dn ++ line) (line.foldl pushM st)
  | [], Dn, st, _, I => by
    rw [List.append_nil]
    exact I
  | p :: l, Dn, st, ha, I => by
    have e : Dn ++ p :: l = (Dn ++ [p]) ++ l := by rw [List.append_assoc]; rfl
    rw [e] at ha ⊢
    exact fold_inv l (Dn ++ [p]) (pushM st p) ha (push_inv I (List.pairwise_append.mp ha).1)
theorem chain_inv {R : List P2} (h : R.Pairwise ptlt) (hne : R ≠ []) : CInv R (chainM R) := by
  cases R with
  | nil => exact absurd rfl hne
  | cons p l =>
    refine fold_inv l [p] [p] h ⟨⟨p, p, rfl, rfl, rfl, rfl⟩, trivial, fun x hx => trivial, by simp, fun y hy => hy⟩
/-! ### by place -/
theorem conv_idx : ∀ (st : List P2), Conv st → ∀ i, i + 2 < st.length → 0 < turnM (at_ st (i + 2)) (at_ st (i + 1)) (at_ st i)
  | [], _, i, h => by simp at h
  | [_], _, i, h => by simp at h
  | [_, _], _, i, h => absurd h (by show ¬ (i + 2 < 2); omega)
  | c :: b :: a :: r, hc, 0, _ => hc.1
  | c :: b :: a :: r, hc, i + 1, h => conv_idx (b :: a :: r) hc.2 i (by simp at h ⊢; omega)
theorem lft_idx {x : P2} : ∀ (st : List P2), Lft x st → ∀ i, i + 1 < st.length → 0 ≤ turnM (at_ st (i + 1)) (at_ st i) x
  | [], _, i, h => by simp at h
  | [_], _, i, h => by simp at h
  | b :: a :: r, hc, 0, _ => hc.1
  | b :: a :: r, hc, i + 1, h => lft_idx (a :: r) hc.2 i (by simp at h ⊢; omega)
theorem at_rev {st : List P2} {i : Nat} (h : i < st.length) : at_ st.reverse i = at_ st (st.length - 1 - i) := by
  have h1 : st.reverse[i]? = some (at_ st.reverse i) := at_get (by rw [List.length_reverse]; exact h)
  rw [List.getElem?_reverse h, at_get (by omega)] at h1
  exact (Option.some.inj h1).symm
/-- a chain from one end of R to the other, forward: up says which way -/
structure Chn (up : Bool) (R c : List P2) : Prop where
  len : 2 ≤ c.length
  ord : ∀ i j, i < j → j < c.length → if up = true then ptlt (at_ c i) (at_ c j) else ptlt (at_ c j) (at_ c i)
  cv : ∀ i, i + 2 < c.length → 0 < turnM (at_ c i) (at_ c (i + 1)) (at_ c (i + 2))
  lf : ∀ i, i + 1 < c.length → ∀ x ∈ R, 0 ≤ turnM (at_ c i) (at_ c (i + 1)) x
  sub : ∀ i, i < c.length → at_ c i ∈ R
theorem at_mem {l : List P2} {i : Nat} (h : i < l.length) : at_ l i ∈ l := List.mem_of_getElem? (at_get h)
theorem pw_idx {Q : P2 → P2 → Prop} {l : List P2} (h : l.Pairwise Q) {i j : Nat} (hij : i < j) (hj : j < l.length) : Q (at_ l i) (at_ l j) := by
  have h1 := List.pairwise_iff_getElem.mp h i j (by omega) hj hij
  have e1 := at_get (ps := l) (i := i) (by omega)
  have e2 := at_get (ps := l) (i := j) hj
  rw [List.getElem?_eq_getElem (by omega)] at e1
  rw [List.getElem?_eq_getElem hj] at e2
  rw [← Option.some.inj e1, ← Option.some.inj e2]
  exact h1
theorem chn_up {R : List P2} (h : R.Pairwise ptlt) (h2 : 2 ≤ R.length) : Chn true R (chainM R).reverse ∧ at_ (chainM R).reverse 0 = at_ R 0 ∧ at_ (chainM R).reverse ((chainM R).reverse.length - 1) = at_ R (R.length - 1) := by
  have hne : R ≠ [] := fun e => by rw [e] at h2; simp at h2
  have I := chain_inv h hne
  obtain ⟨top, bot, i1, i2, i3, i4⟩ := I.ne
  have hbot : at_ R 0 = bot := by
    rw [List.head?_eq_getElem?, at_get (by omega)] at i4
    exact Option.some.inj i4
  have htop : at_ R (R.length - 1) = top := by
    rw [List.getLast?_eq_getElem?, at_get (by omega)] at i2
    exact Option.some.inj i2
  generalize chainM R = st at *
  have hst : 0 < st.length := by cases st with | nil => cases i1 | cons _ _ => simp
  have e0 : at_ st 0 = top := by
    rw [List.head?_eq_getElem?, at_get hst] at i1
    exact Option.some.inj i1
  have eL : at_ st (st.length - 1) = bot := by
    rw [List.getLast?_eq_getElem?, at_get (by omega)] at i3
    exact Option.some.inj i3
  have hlt := pw_idx h (show 0 < R.length - 1 by omega) (by omega)
  rw [hbot, htop] at hlt
  have hlen : 2 ≤ st.length := by
    rcases Nat.lt_or_ge st.length 2 with z | z
    · have : st.length = 1 := by omega
      rw [this] at eL
      rw [e0] at eL
      rw [eL] at hlt
      exact absurd hlt lt_irr
    · exact z
  refine ⟨⟨by rw [List.length_reverse]; exact hlen, fun i j hij hj => ?_, fun i hi => ?_, fun i hi x hx => ?_, fun i hi => ?_⟩, ?_, ?_⟩
  · rw [List.length_reverse] at hj
    rw [if_pos rfl, at_rev (by omega), at_rev hj]
    exact pw_idx I.desc (by omega) (by omega)
  · rw [List.length_reverse] at hi
    rw [at_rev (by omega), at_rev (by omega), at_rev hi]
    have h1 := conv_idx st I.conv (st.length - 1 - (i + 2)) (by omega)
    rw [show st.length - 1 - (i + 2) + 2 = st.length - 1 - i by omega, show st.length - 1 - (i + 2) + 1 = st.length - 1 - (i + 1) by omega] at h1
    exact h1
  · rw [List.length_reverse] at hi
    rw [at_rev (by omega), at_rev hi]
    have h1 := lft_idx st (I.lft x hx) (st.length - 1 - (i + 1)) (by omega)
    rw [show st.length - 1 - (i + 1) + 1 = st.length - 1 - i by omega] at h1
    exact h1
  · rw [List.length_reverse] at hi
    rw [at_rev hi]
    exact I.sub _ (at_mem (by omega))
  · rw [at_rev hst, hbot]
    exact eL
  · rw [List.length_reverse, at_rev (by omega), show st.length - 1 - (st.length - 1) = 0 by omega, htop]
    exact e0
/-! ### the way back: all turned by half -/
def ng (p : P2) : P2 := (-p.1, -p.2)
theorem ng_ng (p : P2) : ng (ng p) = p := by
  unfold ng
  simp
theorem turn_ng (a b c : P2) : turnM (ng a) (ng b) (ng c) = turnM a b c := by
  unfold turnM ng
  simp only
  have e1 : -b.1 - -a.1 = -(b.1 - a.1) := by omega
  have e2 : -c.2 - -a.2 = -(c.2 - a.2) := by omega
  have e3 : -b.2 - -a.2 = -(b.2 - a.2) := by omega
  have e4 : -c.1 - -a.1 = -(c.1 - a.1) := by omega
  rw [e1, e2, e3, e4, Int.neg_mul_neg, Int.neg_mul_neg]
theorem pops_ng (p : P2) : ∀ st : List P2, pops (st.map ng) (ng p) = (pops st p).map ng
  | [] => rfl
  | [b] => rfl
  | b :: a :: r => by
    show pops (ng b :: ng a :: r.map ng) (ng p) = _
    rw [pops, pops, turn_ng]
    by_cases h : turnM a b p ≤ 0
    · rw [if_pos h, if_pos h]
      exact pops_ng p (a :: r)
    · rw [if_neg h, if_neg h]
      rfl
theorem fold_ng : ∀ (l st : List P2), (l.map ng).foldl pushM (st.map ng) = (l.foldl pushM st).map ng
  | [], st => rfl
  | p :: l, st => by
    rw [List.map_cons, List.foldl_cons, List.foldl_cons, ← fold_ng l (pushM st p)]
    congr 1
    show ng p :: pops (st.map ng) (ng p) = _
    rw [pops_ng]
    rfl
theorem chain_ng (l : List P2) : chainM (l.map ng) = (chainM l).map ng := fold_ng l []
theorem at_map {l : List P2} {i : Nat} (h : i < l.length) : at_ (l.map ng) i = ng (at_ l i) := by
  have h1 : (l.map ng)[i]? = some (ng (at_ l i)) := by rw [List.getElem?_map, at_get h]; rfl
  rw [at_get (by rw [List.length_map]; exact h)] at h1
  exact Option.some.inj h1
theorem lt_ng {p q : P2} : ptlt (ng p) (ng q) ↔ ptlt q p := by
  unfold ptlt ng
  simp only
  omega
theorem chn_down {R : List P2} (h : R.Pairwise ptlt) (h2 : 2 ≤ R.length) : Chn false R (chainM R.reverse).reverse ∧ at_ (chainM R.reverse).reverse 0 = at_ R (R.length - 1) ∧ at_ (chainM R.reverse).reverse ((chainM R.reverse).reverse.length - 1) = at_ R 0 := by
  have hN : (R.reverse.map ng).Pairwise ptlt := by
    rw [List.pairwise_map, List.pairwise_reverse]
    exact h.imp fun h => lt_ng.mpr h
  have hl : (R.reverse.map ng).length = R.length := by rw [List.length_map, List.length_reverse]
  obtain ⟨C, h0, hn⟩ := chn_up hN (by rw [hl]; exact h2)
  rw [chain_ng, ← List.map_reverse] at C h0 hn
  generalize (chainM R.reverse).reverse = c at *
  have hcl : (c.map ng).length = c.length := List.length_map _
  have hlen := C.len
  rw [hcl] at hlen
  have hat : ∀ i, i < c.length → at_ (c.map ng) i = ng (at_ c i) := fun i hi => at_map hi
  refine ⟨⟨hlen, fun i j hij hj => ?_, fun i hi => ?_, fun i hi x hx => ?_, fun i hi => ?_⟩, ?_, ?_⟩
  · have := C.ord i j hij (by rw [hcl]; exact hj)
    rw [if_pos rfl, hat i (by omega), hat j hj, lt_ng] at this
    rw [if_neg (by decide)]
    exact this
  · have := C.cv i (by rw [hcl]; exact hi)
    rw [hat i (by omega), hat (i + 1) (by omega), hat (i + 2) hi, turn_ng] at this
    exact this
  · have := C.lf i (by rw [hcl]; exact hi) (ng x) (List.mem_map.mpr ⟨x, List.mem_reverse.mpr hx, rfl⟩)
    rw [hat i (by omega), hat (i + 1) hi, turn_ng] at this
    exact this
  · have := C.sub i (by rw [hcl]; exact hi)
    rw [hat i hi] at this
    obtain ⟨y, hy, e⟩ := List.mem_map.mp this
    have e2 : y = at_ c i := by rw [← ng_ng y, e, ng_ng]
    rw [← e2]
    exact List.mem_reverse.mp hy
  · rw [hat 0 (by omega), at_map (by rw [List.length_reverse]; omega), at_rev (by omega)] at h0
    have := congrArg ng h0
    rw [ng_ng, ng_ng, Nat.sub_zero] at this
    exact this
  · rw [hcl, hl, hat _ (by omega), at_map (by rw [List.length_reverse]; omega), at_rev (by omega)] at hn
    have := congrArg ng hn
    rw [ng_ng, ng_ng, show R.length - 1 - (R.length - 1) = 0 by omega] at this
    exact this
end GF
set_option Elab.async false
set_option linter.all false
set_option maxRecDepth 100000
set_option maxHeartbeats 1000000
/-! The hull is a fence. -/
namespace GF
theorem turn_mid (a b c : P2) : turnM a b c = -cr (sb b a) (sb b c) := by rw [turn_cr2, cr_sb_neg]
theorem cr_neg2 (p q r s : P2) : cr (sb p q) (sb r s) = cr (sb q p) (sb s r) := by
  rw [cr_sb_neg, cr_neg (sb p q), cr_sb_neg (sb s r), cr_neg (sb s r)]
  omega
theorem turn_dn (b c x : P2) : turnM b c x = cr (sb b c) (sb b x) := by rw [turn_cr, cr_neg2]
theorem turn_low (a b c : P2) : turnM a b c = -cr (sb a b) (sb c b) := by rw [turn_mid, cr_neg2]
theorem cr_zero {A C X : P2} (hA : lp A) (hC : lp C) (h0 : cr A C = 0) (h : cr A X = 0) : cr C X = 0 := by
  obtain ⟨α, γ, h1, h2, h3⟩ := sd hA hC h0
  have h4 := h3 X
  rw [h, Int.mul_zero] at h4
  rcases Int.mul_eq_zero.mp h4 with w | w
  · omega
  · exact w
section
variable {R lo up : List P2}
/-- what stands at i on the way round -/
def cyc (lo up : List P2) (i : Nat) : P2 := if i ≤ lo.length - 1 then at_ lo i else at_ up (i - (lo.length - 1))
theorem at_app_l {a b : List P2} {i : Nat} (h : i < a.length) : at_ (a ++ b) i = at_ a i := by
  have h1 : (a ++ b)[i]? = some (at_ a i) := by rw [List.getElem?_append_left h]; exact at_get h
  rw [at_get (by rw [List.length_append]; omega)] at h1
  exact Option.some.inj h1
theorem at_app_r {a b : List P2} {i : Nat} (h : a.length ≤ i) (h2 : i < a.length + b.length) : at_ (a ++ b) i = at_ b (i - a.length) := by
  have h1 : (a ++ b)[i]? = some (at_ b (i - a.length)) := by rw [List.getElem?_append_right h]; exact at_get (by omega)
  rw [at_get (by rw [List.length_append]; omega)] at h1
  exact Option.some.inj h1
theorem at_dl {a : List P2} {i : Nat} (h : i < a.length - 1) : at_ a.dropLast i = at_ a i := by
  have h1 : a.dropLast[i]? = some (at_ a i) := by
    rw [List.dropLast_eq_take, List.getElem?_take, if_pos h]
    exact at_get (by omega)
  rw [at_get (by rw [List.length_dropLast]; exact h)] at h1
  exact Option.some.inj h1
variable (hR : R.Pairwise ptlt) (CL : Chn true R lo) (CU : Chn false R up) (e1 : at_ lo (lo.length - 1) = at_ up 0) (e2 : at_ up (up.length - 1) = at_ lo 0)
include CL CU e1 e2
theorem hull_len : (lo.dropLast ++ up.dropLast).length = (lo.length - 1) + (up.length - 1) := by
  rw [List.length_append, List.length_dropLast, List.length_dropLast]
theorem cyc_up {i : Nat} (h : lo.length - 1 ≤ i) : cyc lo up i = at_ up (i - (lo.length - 1)) := by
  unfold cyc
  by_cases z : i ≤ lo.length - 1
  · have : i = lo.length - 1 := by omega
    rw [if_pos z, this, e1, Nat.sub_self]
  · rw [if_neg z]
theorem cyc_lo {i : Nat} (h : i ≤ lo.length - 1) : cyc lo up i = at_ lo i := if_pos h
theorem hull_at {i : Nat} (h : i < (lo.length - 1) + (up.length - 1)) : at_ (lo.dropLast ++ up.dropLast) i = cyc lo up i := by
  by_cases z : i < lo.length - 1
  · rw [at_app_l (by rw [List.length_dropLast]; exact z), at_dl z, cyc_lo CL CU e1 e2 (by omega)]
  · rw [at_app_r (by rw [List.length_dropLast]; omega) (by rw [List.length_dropLast, List.length_dropLast]; omega), List.length_dropLast, at_dl (by omega), cyc_up CL CU e1 e2 (by omega)]
theorem cyc_m : cyc lo up ((lo.length - 1) + (up.length - 1)) = cyc lo up 0 := by
  rw [cyc_up CL CU e1 e2 (by omega), Nat.add_sub_cancel_left, e2, cyc_lo CL CU e1 e2 (Nat.zero_le _)]
theorem hull_mod {i : Nat} (h : i ≤ (lo.length - 1) + (up.length - 1)) : at_ (lo.dropLast ++ up.dropLast) (i % ((lo.length - 1) + (up.length - 1))) = cyc lo up i := by
  have hl := CL.len
  have hu := CU.len
  by_cases z : i = (lo.length - 1) + (up.length - 1)
  · rw [z, Nat.mod_self, hull_at CL CU e1 e2 (by omega), cyc_m CL CU e1 e2]
  · rw [Nat.mod_eq_of_lt (by omega), hull_at CL CU e1 e2 (by omega)]
/-- a lower corner and the next one -/
theorem lo_lp {i j : Nat} (h : i < j) (hj : j < lo.length) : lp (sb (at_ lo j) (at_ lo i)) := by
  have := CL.ord i j h hj
  rw [if_pos rfl] at this
  exact lt_lp.mp this
theorem up_lp {i j : Nat} (h : i < j) (hj : j < up.length) : lp (sb (at_ up i) (at_ up j)) := by
  have := CU.ord i j h hj
  rw [if_neg (by decide)] at this
  exact lt_lp.mp this
/-- where the lower chain goes over into the upper one -/
theorem turn_top (h3 : 3 ≤ (lo.length - 1) + (up.length - 1)) : 0 < turnM (at_ lo (lo.length - 2)) (at_ up 0) (at_ up 1) := by
  have hl := CL.len
  have hu := CU.len
  have h0 := CL.lf (lo.length - 2) (by omega) (at_ up 1) (CU.sub 1 (by omega))
  rw [show lo.length - 2 + 1 = lo.length - 1 by omega, e1] at h0
  rcases Int.lt_or_eq_of_le h0 with z | z
  · exact z
  have hA := lo_lp CL CU e1 e2 (i := lo.length - 2) (j := lo.length - 1) (by omega) (by omega)
  rw [e1] at hA
  have hD := up_lp CL CU e1 e2 (i := 0) (j := 1) (by omega) (by omega)
  have hAD : cr (sb (at_ up 0) (at_ lo (lo.length - 2))) (sb (at_ up 0) (at_ up 1)) = 0 := by
    have := z
    rw [turn_mid] at this
    omega
  have hDA : cr (sb (at_ up 0) (at_ up 1)) (sb (at_ up 0) (at_ lo (lo.length - 2))) = 0 := by rw [cr_neg, hAD]; rfl
  have hz : ∀ x ∈ R, cr (sb (at_ up 0) (at_ lo (lo.length - 2))) (sb (at_ up 0) x) = 0 := fun x hx => by
    have g1 := CL.lf (lo.length - 2) (by omega) x hx
    rw [show lo.length - 2 + 1 = lo.length - 1 by omega, e1, turn_mid] at g1
    have g2 := CU.lf 0 (by omega) x hx
    rw [turn_dn] at g2
    have g3 := sd_nn hD hA hDA g2
    omega
  exfalso
  by_cases hk : 3 ≤ lo.length
  · have g := CL.cv (lo.length - 3) (by omega)
    rw [show lo.length - 3 + 1 = lo.length - 2 by omega, show lo.length - 3 + 2 = lo.length - 1 by omega, e1, turn_cyc, turn_mid, hz _ (CL.sub _ (by omega))] at g
    omega
  · have g := CU.cv 0 (by omega)
    have hx := hz _ (CU.sub 2 (by omega))
    have e := cr_zero hA hD hAD hx
    rw [turn_dn] at g
    have e3 : cr (sb (at_ up 0) (at_ up (0 + 1))) (sb (at_ up 0) (at_ up (0 + 2))) = 0 := e
    omega
/-- .. and at the least corner -/
theorem turn_bot (h3 : 3 ≤ (lo.length - 1) + (up.length - 1)) : 0 < turnM (at_ up (up.length - 2)) (at_ lo 0) (at_ lo 1) := by
  have hl := CL.len
  have hu := CU.len
  have h0 := CU.lf (up.length - 2) (by omega) (at_ lo 1) (CL.sub 1 (by omega))
  rw [show up.length - 2 + 1 = up.length - 1 by omega, e2] at h0
  rcases Int.lt_or_eq_of_le h0 with z | z
  · exact z
  have hA := up_lp CL CU e1 e2 (i := up.length - 2) (j := up.length - 1) (by omega) (by omega)
  rw [e2] at hA
  have hB := lo_lp CL CU e1 e2 (i := 0) (j := 1) (by omega) (by omega)
  have hAB : cr (sb (at_ up (up.length - 2)) (at_ lo 0)) (sb (at_ lo 1) (at_ lo 0)) = 0 := by
    have := z
    rw [turn_low] at this
    omega
  have hBA : cr (sb (at_ lo 1) (at_ lo 0)) (sb (at_ up (up.length - 2)) (at_ lo 0)) = 0 := by rw [cr_neg, hAB]; rfl
  have hz : ∀ x ∈ R, cr (sb (at_ up (up.length - 2)) (at_ lo 0)) (sb x (at_ lo 0)) = 0 := fun x hx => by
    have g1 := CU.lf (up.length - 2) (by omega) x hx
    rw [show up.length - 2 + 1 = up.length - 1 by omega, e2, turn_low] at g1
    have g2 := CL.lf 0 (by omega) x hx
    rw [turn_cr] at g2
    have g3 := sd_nn hB hA hBA g2
    omega
  exfalso
  by_cases hk : 3 ≤ up.length
  · have g := CU.cv (up.length - 3) (by omega)
    rw [show up.length - 3 + 1 = up.length - 2 by omega, show up.length - 3 + 2 = up.length - 1 by omega, e2, turn_cyc, turn_low, hz _ (CU.sub _ (by omega))] at g
    omega
  · have g := CL.cv 0 (by omega)
    have hx := hz _ (CL.sub 2 (by omega))
    have e := cr_zero hA hB hAB hx
    rw [turn_cr] at g
    have e3 : cr (sb (at_ lo (0 + 1)) (at_ lo 0)) (sb (at_ lo (0 + 2)) (at_ lo 0)) = 0 := e
    omega
theorem hull_turn (h3 : 3 ≤ (lo.length - 1) + (up.length - 1)) {i : Nat} (hi : i < (lo.length - 1) + (up.length - 1)) : 0 < turnM (at_ (lo.dropLast ++ up.dropLast) i) (at_ (lo.dropLast ++ up.dropLast) ((i + 1) % ((lo.length - 1) + (up.length - 1)))) (at_ (lo.dropLast ++ up.dropLast) ((i + 2) % ((lo.length - 1) + (up.length - 1)))) := by
  have hl := CL.len
  have hu := CU.len
  rw [hull_at CL CU e1 e2 hi, hull_mod CL CU e1 e2 (by omega)]
  by_cases c1 : i + 2 ≤ (lo.length - 1) + (up.length - 1)
  · rw [hull_mod CL CU e1 e2 c1]
    by_cases c2 : i + 2 ≤ lo.length - 1
    · rw [cyc_lo CL CU e1 e2 (by omega), cyc_lo CL CU e1 e2 (by omega), cyc_lo CL CU e1 e2 c2]
      exact CL.cv i (by omega)
    · by_cases c3 : lo.length - 1 ≤ i
      · rw [cyc_up CL CU e1 e2 c3, cyc_up CL CU e1 e2 (by omega), cyc_up CL CU e1 e2 (by omega), show i + 1 - (lo.length - 1) = i - (lo.length - 1) + 1 by omega, show i + 2 - (lo.length - 1) = i - (lo.length - 1) + 2 by omega]
        exact CU.cv _ (by omega)
      · have : i = lo.length - 2 := by omega
        subst this
        rw [cyc_lo CL CU e1 e2 (by omega), cyc_up CL CU e1 e2 (by omega), cyc_up CL CU e1 e2 (by omega), show lo.length - 2 + 1 - (lo.length - 1) = 0 by omega, show lo.length - 2 + 2 - (lo.length - 1) = 1 by omega]
        exact turn_top CL CU e1 e2 h3
  · have hi2 : i + 1 = (lo.length - 1) + (up.length - 1) := by omega
    have e3 : (i + 2) % ((lo.length - 1) + (up.length - 1)) = 1 % ((lo.length - 1) + (up.length - 1)) := by
      rw [show i + 2 = 1 + ((lo.length - 1) + (up.length - 1)) by omega, Nat.add_mod_right]
    rw [e3, hull_mod CL CU e1 e2 (show 1 ≤ _ by omega), hi2, cyc_m CL CU e1 e2, cyc_lo CL CU e1 e2 (Nat.zero_le _), cyc_lo CL CU e1 e2 (show 1 ≤ lo.length - 1 by omega), cyc_up CL CU e1 e2 (by omega), show i - (lo.length - 1) = up.length - 2 by omega]
    exact turn_bot CL CU e1 e2 h3
theorem hull_fan {i : Nat} (h1 : 1 ≤ i) (hi : i + 1 < (lo.length - 1) + (up.length - 1)) : 0 < turnM (at_ (lo.dropLast ++ up.dropLast) 0) (at_ (lo.dropLast ++ up.dropLast) i) (at_ (lo.dropLast ++ up.dropLast) (i + 1)) := by
  have hl := CL.len
  have hu := CU.len
  rw [hull_at CL CU e1 e2 (by omega), hull_at CL CU e1 e2 (by omega), hull_at CL CU e1 e2 hi, cyc_lo CL CU e1 e2 (Nat.zero_le _), turn_cyc]
  by_cases c : i + 1 ≤ lo.length - 1
  · rw [cyc_lo CL CU e1 e2 (by omega), cyc_lo CL CU e1 e2 c]
    have h0 := CL.lf i (by omega) (at_ lo 0) (CL.sub 0 (by omega))
    rcases Int.lt_or_eq_of_le h0 with z | z
    · exact z
    exfalso
    have hU := lo_lp CL CU e1 e2 (i := 0) (j := i) (by omega) (by omega)
    have hV := lo_lp CL CU e1 e2 (i := i) (j := i + 1) (by omega) (by omega)
    have g0 : cr (sb (at_ lo i) (at_ lo 0)) (sb (at_ lo (i + 1)) (at_ lo i)) = 0 := by
      have := z
      rw [← turn_cyc, turn_cr2] at this
      omega
    have gv : cr (sb (at_ lo (i + 1)) (at_ lo i)) (sb (at_ lo i) (at_ lo 0)) = 0 := by rw [cr_neg, g0]; rfl
    have g1 := CL.cv (i - 1) (by omega)
    rw [show i - 1 + 1 = i by omega, show i - 1 + 2 = i + 1 by omega, turn_low] at g1
    have g2 := CL.lf (i - 1) (by omega) (at_ lo 0) (CL.sub 0 (by omega))
    rw [show i - 1 + 1 = i by omega, turn_mid] at g2
    -- V x (t - u) > 0
    have g3 : 0 < cr (sb (at_ lo (i + 1)) (at_ lo i)) (sb (at_ lo (i - 1)) (at_ lo i)) := by
      rw [cr_neg]
      omega
    have g4 := sd_pos hV hU gv g3
    rw [cr_sb_neg, cr_neg, Int.neg_neg] at g4
    omega
  · rw [cyc_up CL CU e1 e2 (by omega), cyc_up CL CU e1 e2 (by omega), show i + 1 - (lo.length - 1) = i - (lo.length - 1) + 1 by omega]
    have hj : i - (lo.length - 1) + 2 < up.length := by omega
    generalize i - (lo.length - 1) = j at *
    have h0 := CU.lf j (by omega) (at_ lo 0) (CL.sub 0 (by omega))
    rcases Int.lt_or_eq_of_le h0 with z | z
    · exact z
    exfalso
    have hU := up_lp CL CU e1 e2 (i := j) (j := j + 1) (by omega) (by omega)
    have hV := up_lp CL CU e1 e2 (i := j + 1) (j := up.length - 1) (by omega) (by omega)
    rw [e2] at hV
    have g0 : cr (sb (at_ up j) (at_ up (j + 1))) (sb (at_ up (j + 1)) (at_ lo 0)) = 0 := by
      have := z
      rw [turn_cr2, cr_neg2] at this
      omega
    have g1 := CU.cv j hj
    rw [turn_cr2, cr_neg2] at g1
    have g2 := CU.lf (j + 1) (by omega) (at_ lo 0) (CL.sub 0 (by omega))
    rw [turn_dn] at g2
    have g3 := sd_pos hU hV g0 g1
    rw [cr_neg] at g3
    have e5 : j + 1 + 1 = j + 2 := rfl
    rw [e5] at g2
    omega
theorem hull_nodup : (lo.dropLast ++ up.dropLast).Nodup := by
  have hl := CL.len
  have hu := CU.len
  have key : ∀ i j, i < j → j < (lo.length - 1) + (up.length - 1) → cyc lo up i ≠ cyc lo up j := fun i j hij hj he => by
    by_cases c1 : j ≤ lo.length - 1
    · rw [cyc_lo CL CU e1 e2 (by omega), cyc_lo CL CU e1 e2 c1] at he
      have := CL.ord i j hij (by omega)
      rw [if_pos rfl, he] at this
      exact lt_irr this
    · by_cases c2 : lo.length - 1 ≤ i
      · rw [cyc_up CL CU e1 e2 c2, cyc_up CL CU e1 e2 (by omega)] at he
        have := CU.ord (i - (lo.length - 1)) (j - (lo.length - 1)) (by omega) (by omega)
        rw [if_neg (by decide), he] at this
        exact lt_irr this
      · rw [cyc_lo CL CU e1 e2 (by omega), cyc_up CL CU e1 e2 (by omega)] at he
        have hj1 : 1 ≤ j - (lo.length - 1) := by omega
        have hj2 : j - (lo.length - 1) + 1 < up.length := by omega
        generalize j - (lo.length - 1) = k at *
        by_cases i0 : i = 0
        · subst i0
          rw [← e2] at he
          have := CU.ord k (up.length - 1) (by omega) (by omega)
          rw [if_neg (by decide), he] at this
          exact lt_irr this
        · have hA := lo_lp CL CU e1 e2 (i := i - 1) (j := i) (by omega) (by omega)
          have hB := lo_lp CL CU e1 e2 (i := i) (j := i + 1) (by omega) (by omega)
          have hC := up_lp CL CU e1 e2 (i := k - 1) (j := k) (by omega) (by omega)
          have q1 := CL.cv (i - 1) (by omega)
          rw [show i - 1 + 1 = i by omega, show i - 1 + 2 = i + 1 by omega, turn_cr2] at q1
          have q2 := CL.lf (i - 1) (by omega) (at_ up (k - 1)) (CU.sub _ (by omega))
          rw [show i - 1 + 1 = i by omega, turn_cr2] at q2
          have q3 := CU.lf (k - 1) (by omega) (at_ lo (i - 1)) (CL.sub _ (by omega))
          rw [show k - 1 + 1 = k by omega, ← he, turn_cr2, cr_neg2, cr_neg] at q3
          have q4 := CL.lf i (by omega) (at_ up (k - 1)) (CU.sub _ (by omega))
          rw [turn_cr] at q4
          rw [← he] at hC
          have q5 : cr (sb (at_ lo i) (at_ lo (i - 1))) (sb (at_ up (k - 1)) (at_ lo i)) = 0 := by omega
          have q6 := sd_pos hA hC q5 q1
          rw [cr_neg] at q6
          omega
  rw [List.Nodup, List.pairwise_iff_getElem]
  intro i j hi hj hij
  have hlen := hull_len CL CU e1 e2
  have k1 := key i j hij (by omega)
  rw [← hull_at CL CU e1 e2 (by omega), ← hull_at CL CU e1 e2 (by omega)] at k1
  have g1 := at_get hi
  have g2 := at_get hj
  rw [List.getElem?_eq_getElem hi] at g1
  rw [List.getElem?_eq_getElem hj] at g2
  intro z
  apply k1
  rw [← Option.some.inj g1, ← Option.some.inj g2, z]
theorem hull_mem : ∀ x ∈ lo.dropLast ++ up.dropLast, x ∈ R := fun x hx => by
  obtain ⟨i, hi, e⟩ := List.mem_iff_getElem.mp hx
  have hlen := hull_len CL CU e1 e2
  have g1 := at_get hi
  rw [List.getElem?_eq_getElem hi, hull_at CL CU e1 e2 (by omega)] at g1
  rw [← e, Option.some.inj g1]
  by_cases c : i ≤ lo.length - 1
  · rw [cyc_lo CL CU e1 e2 c]
    have := CL.len
    exact CL.sub i (by omega)
  · rw [cyc_up CL CU e1 e2 (by omega)]
    exact CU.sub _ (by omega)
end
theorem hull_ok : HullOk := fun R hR hne h8 hb => by
  unfold hullM
  by_cases h2 : R.length < 2
  · rw [if_pos h2]
    have h1 : 1 ≤ R.length := by
      cases R with
      | nil => exact absurd rfl hne
      | cons _ _ => simp
    exact ⟨h1, by omega, hb, fun h => by omega, fun h => by omega⟩
  · rw [if_neg h2]
    obtain ⟨CL, l0, l1⟩ := chn_up hR (by omega)
    obtain ⟨CU, u0, u1⟩ := chn_down hR (by omega)
    have e1 := l1.trans u0.symm
    have e2 := u1.trans l0.symm
    generalize (chainM R).reverse = lo at *
    generalize (chainM R.reverse).reverse = up at *
    have hl := CL.len
    have hu := CU.len
    have hlen := hull_len CL CU e1 e2
    have hmem := hull_mem CL CU e1 e2
    have hn := nodup_len (hull_nodup CL CU e1 e2) hmem
    have hz : at_ (lo.dropLast ++ up.dropLast) 0 = at_ R 0 := by rw [hull_at CL CU e1 e2 (by omega), cyc_lo CL CU e1 e2 (Nat.zero_le _), l0]
    refine ⟨by omega, by omega, fun p hp => hb p (hmem p hp), fun h => ?_, fun h => ⟨fun q hq => ?_, fun i hi => ?_, fun i h1 hi => ?_⟩⟩
    · rw [hull_at CL CU e1 e2 (by omega), hull_at CL CU e1 e2 (by omega), cyc_lo CL CU e1 e2 (by omega), cyc_lo CL CU e1 e2 (by omega)]
      have := CL.ord 0 1 (by decide) (by omega)
      rw [if_pos rfl] at this
      exact this
    · rw [hz]
      have h0 : R.head? = some (at_ R 0) := by rw [List.head?_eq_getElem?, at_get (by omega)]
      rcases asc_head hR h0 (hmem q hq) with e | e
      · rw [e]
        exact lt_irr
      · exact lt_asym e
    · rw [hlen] at hi h ⊢
      exact hull_turn CL CU e1 e2 h hi
    · rw [hlen] at hi
      exact hull_fan CL CU e1 e2 h1 hi
end GF
set_option Elab.async false
set_option linter.all false
set_option maxRecDepth 100000
set_option maxHeartbeats 0
namespace GF
open PySem PySem.Spec PyProof.Rows L2
theorem facts {P : Program} {w : World} {K : PySem.W.Frag} {h : Heap} {mg : Str → Option Value} {fl : Addr} (htop : (P.main.scope.names.lookup ("super" : Str)).isSome = false) (hfile : P.main.file = flN) (X : K.In h) (G : h.Ns mainGlobals mg) (hfa : mg ("law" : Str) = some (.ref fl)) (cS : obsS K = valS) :
    ∃ fd : FuncData, (∀ (s : Shared) (v : Value), BindsTo s fd ⟨[v], []⟩ [("_law_script", v)]) ∧ ∀ base : Heap, K.In base → base.Ns mainGlobals mg → FnOk P w K mg base CX0 12 fl fd ["_law_script"] (spLaw K) := by
  have c : He.SaysD fa fn K := congrArg Prod.snd cS
  have c1 : (supB flN K, supW K) = (true, supV) := congrArg Prod.fst cS
  have hS := sup_ok (P := P) htop (congrArg Prod.snd c1) (by rw [hfile]; exact congrArg Prod.fst c1)
  have e := hfa.symm.trans (He.glo_ok X G (c.fact 42 (f := .glo "law") rfl))
  cases e
  obtain ⟨fd_law, F_law⟩ := c.def_ 52 (d := d_law) rfl
  have F_law : FnP K "law" s_law (He.ga K "law") fd_law := F_law
  have b := FunD.bindsA (ps := ["_law_script"]) F_law fun _ _ _ _ _ _ us hl => match us, hl with | [_], _ => rfl
  refine ⟨fd_law, fun s v => b s [v] rfl, fun base _ _ => ?_⟩
  have N : Nm mg := ⟨He.free_ok X G (c.fact 43 (f := .free "len") rfl), He.free_ok X G (c.fact 44 (f := .free "abs") rfl), He.free_ok X G (c.fact 45 (f := .free "isinstance") rfl), He.free_ok X G (c.fact 46 (f := .free "int") rfl), He.free_ok X G (c.fact 47 (f := .free "bool") rfl), He.free_ok X G (c.fact 48 (f := .free "tuple") rfl), He.free_ok X G (c.fact 49 (f := .free "list") rfl), He.free_ok X G (c.fact 50 (f := .free "all") rfl), He.free_ok X G (c.fact 51 (f := .free "zip") rfl), He.free_ok X G (c.fact 52 (f := .free "min") rfl), He.free_ok X G (c.fact 53 (f := .free "max") rfl), He.free_ok X G (c.fact 54 (f := .free "sum") rfl), He.free_ok X G (c.fact 55 (f := .free "sorted") rfl), He.free_ok X G (c.fact 56 (f := .free "set") rfl), He.free_ok X G (c.fact 57 (f := .free "range") rfl), He.free_ok X G (c.fact 58 (f := .free "divmod") rfl), He.free_ok X G (c.fact 59 (f := .free "super") rfl), He.int_ok X G (c.fact 60 (f := .int "MOST_PARTS" 30) rfl), He.int_ok X G (c.fact 61 (f := .int "MOST_AROUND" 10) rfl), He.int_ok X G (c.fact 62 (f := .int "MOST_PLACE" (10 ^ 30)) rfl), He.int_ok X G (c.fact 63 (f := .int "MOST_SIZE" (10 ^ 30)) rfl)⟩
  obtain ⟨fd_floor_sum, F_floor_sum⟩ := c.def_ 2 (d := d_floor_sum) rfl
  have F_floor_sum : FnP K "floor_sum" s_floor_sum (He.ga K "floor_sum") fd_floor_sum := F_floor_sum
  have u_floor_sum : Use P w K mg base "floor_sum" 1 ["many", "step", "start", "bottom"] spFloor (He.ga K "floor_sum") fd_floor_sum := ⟨ok_floor_sum F_floor_sum N, He.glo_ok X G (c.fact 0 (f := .glo "floor_sum") rfl), F_floor_sum.kp, F_floor_sum.bindsN fun _ _ _ _ _ _ us hl => match us, hl with | [_, _, _, _], _ => rfl⟩
  obtain ⟨fd_round_up, F_round_up⟩ := c.def_ 3 (d := d_round_up) rfl
  have F_round_up : FnP K "round_up" s_round_up (He.ga K "round_up") fd_round_up := F_round_up
  have u_round_up : Use P w K mg base "round_up" 1 ["top", "bottom"] spRup (He.ga K "round_up") fd_round_up := ⟨ok_round_up F_round_up, He.glo_ok X G (c.fact 1 (f := .glo "round_up") rfl), F_round_up.kp, F_round_up.bindsN fun _ _ _ _ _ _ us hl => match us, hl with | [_, _], _ => rfl⟩
  obtain ⟨fd_bezout, F_bezout⟩ := c.def_ 4 (d := d_bezout) rfl
  have F_bezout : FnP K "bezout" s_bezout (He.ga K "bezout") fd_bezout := F_bezout
  have u_bezout : Use P w K mg base "bezout" 1 ["one", "other"] spBez (He.ga K "bezout") fd_bezout := ⟨ok_bezout F_bezout, He.glo_ok X G (c.fact 2 (f := .glo "bezout") rfl), F_bezout.kp, F_bezout.bindsN fun _ _ _ _ _ _ us hl => match us, hl with | [_, _], _ => rfl⟩
  obtain ⟨fd_is_integer, F_is_integer⟩ := c.def_ 5 (d := d_is_integer) rfl
  have F_is_integer : FnP K "is_integer" s_is_integer (He.ga K "is_integer") fd_is_integer := F_is_integer
  have u_is_integer : Use P w K mg base "is_integer" 1 ["value"] spIsInt (He.ga K "is_integer") fd_is_integer := ⟨ok_is_integer F_is_integer N, He.glo_ok X G (c.fact 3 (f := .glo "is_integer") rfl), F_is_integer.kp, F_is_integer.bindsN fun _ _ _ _ _ _ us hl => match us, hl with | [_], _ => rfl⟩
  obtain ⟨fd_is_between, F_is_between⟩ := c.def_ 6 (d := d_is_between) rfl
  have F_is_between : FnP K "is_between" s_is_between (He.ga K "is_between") fd_is_between := F_is_between
  have u_is_between : Use P w K mg base "is_between" 2 ["value", "least", "most"] spIsBtw (He.ga K "is_between") fd_is_between := ⟨ok_is_between F_is_between u_is_integer, He.glo_ok X G (c.fact 4 (f := .glo "is_between") rfl), F_is_between.kp, F_is_between.bindsN fun _ _ _ _ _ _ us hl => match us, hl with | [_, _, _], _ => rfl⟩
  obtain ⟨fd_are_integers, F_are_integers⟩ := c.def_ 7 (d := d_are_integers) rfl
  have F_are_integers : FnP K "are_integers" s_are_integers (He.ga K "are_integers") fd_are_integers := F_are_integers
  have u_are_integers : Use P w K mg base "are_integers" 2 ["value", "many"] spAreInts (He.ga K "are_integers") fd_are_integers := ⟨ok_are_integers F_are_integers N u_is_integer, He.glo_ok X G (c.fact 5 (f := .glo "are_integers") rfl), F_are_integers.kp, F_are_integers.bindsN fun _ _ _ _ _ _ us hl => match us, hl with | [_, _], _ => rfl⟩
  obtain ⟨fd_common_divisor, F_common_divisor⟩ := c.def_ 8 (d := d_common_divisor) rfl
  have F_common_divisor : FnP K "common_divisor" s_common_divisor (He.ga K "common_divisor") fd_common_divisor := F_common_divisor
  have u_common_divisor : Use P w K mg base "common_divisor" 1 ["one", "other"] spGcd (He.ga K "common_divisor") fd_common_divisor := ⟨ok_common_divisor F_common_divisor N, He.glo_ok X G (c.fact 6 (f := .glo "common_divisor") rfl), F_common_divisor.kp, F_common_divisor.bindsN fun _ _ _ _ _ _ us hl => match us, hl with | [_, _], _ => rfl⟩
  obtain ⟨fd_turn_at, F_turn_at⟩ := c.def_ 9 (d := d_turn_at) rfl
  have F_turn_at : FnP K "turn_at" s_turn_at (He.ga K "turn_at") fd_turn_at := F_turn_at
  have u_turn_at : Use P w K mg base "turn_at" 1 ["one", "two", "three"] spTurn (He.ga K "turn_at") fd_turn_at := ⟨ok_turn_at F_turn_at, He.glo_ok X G (c.fact 7 (f := .glo "turn_at") rfl), F_turn_at.kp, F_turn_at.bindsN fun _ _ _ _ _ _ us hl => match us, hl with | [_, _, _], _ => rfl⟩
  obtain ⟨fd_is_place, F_is_place⟩ := c.def_ 10 (d := d_is_place) rfl
  have F_is_place : FnP K "is_place" s_is_place (He.ga K "is_place") fd_is_place := F_is_place
  have u_is_place : Use P w K mg base "is_place" 3 ["value"] spIsPlace (He.ga K "is_place") fd_is_place := ⟨ok_is_place F_is_place N u_are_integers, He.glo_ok X G (c.fact 8 (f := .glo "is_place") rfl), F_is_place.kp, F_is_place.bindsN fun _ _ _ _ _ _ us hl => match us, hl with | [_], _ => rfl⟩
  obtain ⟨fd_are_around, F_are_around⟩ := c.def_ 11 (d := d_are_around) rfl
  have F_are_around : FnP K "are_around" s_are_around (He.ga K "are_around") fd_are_around := F_are_around
  have u_are_around : Use P w K mg base "are_around" 2 ["corners"] spAround (He.ga K "are_around") fd_are_around := ⟨ok_are_around F_are_around N u_turn_at, He.glo_ok X G (c.fact 9 (f := .glo "are_around") rfl), F_are_around.kp, F_are_around.bindsN fun _ _ _ _ _ _ us hl => match us, hl with | [_], _ => rfl⟩
  obtain ⟨fd_are_corners, F_are_corners⟩ := c.def_ 12 (d := d_are_corners) rfl
  have F_are_corners : FnP K "are_corners" s_are_corners (He.ga K "are_corners") fd_are_corners := F_are_corners
  have u_are_corners : Use P w K mg base "are_corners" 4 ["value"] spCorners (He.ga K "are_corners") fd_are_corners := ⟨ok_are_corners F_are_corners N u_is_place u_are_around, He.glo_ok X G (c.fact 10 (f := .glo "are_corners") rfl), F_are_corners.kp, F_are_corners.bindsN fun _ _ _ _ _ _ us hl => match us, hl with | [_], _ => rfl⟩
  obtain ⟨fd_sides_of, F_sides_of⟩ := c.def_ 13 (d := d_sides_of) rfl
  have F_sides_of : FnP K "sides_of" s_sides_of (He.ga K "sides_of") fd_sides_of := F_sides_of
  have u_sides_of : Use P w K mg base "sides_of" 1 ["corners"] spSidesOf (He.ga K "sides_of") fd_sides_of := ⟨ok_sides_of F_sides_of N, He.glo_ok X G (c.fact 11 (f := .glo "sides_of") rfl), F_sides_of.kp, F_sides_of.bindsN fun _ _ _ _ _ _ us hl => match us, hl with | [_], _ => rfl⟩
  obtain ⟨fd_are_sides, F_are_sides⟩ := c.def_ 14 (d := d_are_sides) rfl
  have F_are_sides : FnP K "are_sides" s_are_sides (He.ga K "are_sides") fd_are_sides := F_are_sides
  have u_are_sides : Use P w K mg base "are_sides" 3 ["value", "many"] spSides (He.ga K "are_sides") fd_are_sides := ⟨ok_are_sides F_are_sides N u_is_between, He.glo_ok X G (c.fact 12 (f := .glo "are_sides") rfl), F_are_sides.kp, F_are_sides.bindsN fun _ _ _ _ _ _ us hl => match us, hl with | [_, _], _ => rfl⟩
  obtain ⟨fd_fence_fault, F_fence_fault⟩ := c.def_ 15 (d := d_fence_fault) rfl
  have F_fence_fault : FnP K "fence_fault" s_fence_fault (He.ga K "fence_fault") fd_fence_fault := F_fence_fault
  have u_fence_fault : Use P w K mg base "fence_fault" 5 ["value"] spFault (He.ga K "fence_fault") fd_fence_fault := ⟨ok_fence_fault F_fence_fault N u_is_between u_are_corners u_are_sides u_sides_of, He.glo_ok X G (c.fact 13 (f := .glo "fence_fault") rfl), F_fence_fault.kp, F_fence_fault.bindsN fun _ _ _ _ _ _ us hl => match us, hl with | [_], _ => rfl⟩
  obtain ⟨fd_require_fence, F_require_fence⟩ := c.def_ 16 (d := d_require_fence) rfl
  have F_require_fence : FnP K "require_fence" s_require_fence (He.ga K "require_fence") fd_require_fence := F_require_fence
  have u_require_fence : Use P w K mg base "require_fence" 6 ["fence"] spReqFence (He.ga K "require_fence") fd_require_fence := ⟨ok_require_fence F_require_fence u_fence_fault, He.glo_ok X G (c.fact 14 (f := .glo "require_fence") rfl), F_require_fence.kp, F_require_fence.bindsN fun _ _ _ _ _ _ us hl => match us, hl with | [_], _ => rfl⟩
  obtain ⟨fd_require_size, F_require_size⟩ := c.def_ 17 (d := d_require_size) rfl
  have F_require_size : FnP K "require_size" s_require_size (He.ga K "require_size") fd_require_size := F_require_size
  have u_require_size : Use P w K mg base "require_size" 3 ["size"] spReqSize (He.ga K "require_size") fd_require_size := ⟨ok_require_size F_require_size N u_is_between, He.glo_ok X G (c.fact 15 (f := .glo "require_size") rfl), F_require_size.kp, F_require_size.bindsN fun _ _ _ _ _ _ us hl => match us, hl with | [_], _ => rfl⟩
  obtain ⟨fd_require_integer, F_require_integer⟩ := c.def_ 18 (d := d_require_integer) rfl
  have F_require_integer : FnP K "require_integer" s_require_integer (He.ga K "require_integer") fd_require_integer := F_require_integer
  have u_require_integer : Use P w K mg base "require_integer" 2 ["number"] spReqInt (He.ga K "require_integer") fd_require_integer := ⟨ok_require_integer F_require_integer u_is_integer, He.glo_ok X G (c.fact 16 (f := .glo "require_integer") rfl), F_require_integer.kp, F_require_integer.bindsN fun _ _ _ _ _ _ us hl => match us, hl with | [_], _ => rfl⟩
  obtain ⟨fd_require_side, F_require_side⟩ := c.def_ 19 (d := d_require_side) rfl
  have F_require_side : FnP K "require_side" s_require_side (He.ga K "require_side") fd_require_side := F_require_side
  have u_require_side : Use P w K mg base "require_side" 3 ["fence", "side"] spReqSide (He.ga K "require_side") fd_require_side := ⟨ok_require_side F_require_side u_is_between u_sides_of, He.glo_ok X G (c.fact 17 (f := .glo "require_side") rfl), F_require_side.kp, F_require_side.bindsN fun _ _ _ _ _ _ us hl => match us, hl with | [_, _], _ => rfl⟩
  obtain ⟨fd_require_point, F_require_point⟩ := c.def_ 20 (d := d_require_point) rfl
  have F_require_point : FnP K "require_point" s_require_point (He.ga K "require_point") fd_require_point := F_require_point
  have u_require_point : Use P w K mg base "require_point" 3 ["point"] spReqPoint (He.ga K "require_point") fd_require_point := ⟨ok_require_point F_require_point u_are_integers, He.glo_ok X G (c.fact 18 (f := .glo "require_point") rfl), F_require_point.kp, F_require_point.bindsN fun _ _ _ _ _ _ us hl => match us, hl with | [_], _ => rfl⟩
  obtain ⟨fd_pairs_around, F_pairs_around⟩ := c.def_ 21 (d := d_pairs_around) rfl
  have F_pairs_around : FnP K "pairs_around" s_pairs_around (He.ga K "pairs_around") fd_pairs_around := F_pairs_around
  have u_pairs_around : Use P w K mg base "pairs_around" 1 ["corners"] spPairs (He.ga K "pairs_around") fd_pairs_around := ⟨ok_pairs_around F_pairs_around N, He.glo_ok X G (c.fact 19 (f := .glo "pairs_around") rfl), F_pairs_around.kp, F_pairs_around.bindsN fun _ _ _ _ _ _ us hl => match us, hl with | [_], _ => rfl⟩
  obtain ⟨fd_span_of, F_span_of⟩ := c.def_ 22 (d := d_span_of) rfl
  have F_span_of : FnP K "span_of" s_span_of (He.ga K "span_of") fd_span_of := F_span_of
  have u_span_of : Use P w K mg base "span_of" 2 ["bottom", "one", "other"] spSpanOf (He.ga K "span_of") fd_span_of := ⟨ok_span_of F_span_of u_common_divisor u_bezout u_round_up, He.glo_ok X G (c.fact 20 (f := .glo "span_of") rfl), F_span_of.kp, F_span_of.bindsN fun _ _ _ _ _ _ us hl => match us, hl with | [_, _, _], _ => rfl⟩
  obtain ⟨fd_span_count, F_span_count⟩ := c.def_ 23 (d := d_span_count) rfl
  have F_span_count : FnP K "span_count" s_span_count (He.ga K "span_count") fd_span_count := F_span_count
  have u_span_count : Use P w K mg base "span_count" 2 ["span", "row"] spSpanCnt (He.ga K "span_count") fd_span_count := ⟨ok_span_count F_span_count N u_round_up, He.glo_ok X G (c.fact 21 (f := .glo "span_count") rfl), F_span_count.kp, F_span_count.bindsN fun _ _ _ _ _ _ us hl => match us, hl with | [_, _], _ => rfl⟩
  obtain ⟨fd_low_height, F_low_height⟩ := c.def_ 24 (d := d_low_height) rfl
  have F_low_height : FnP K "low_height" s_low_height (He.ga K "low_height") fd_low_height := F_low_height
  have u_low_height : Use P w K mg base "low_height" 1 ["pair"] spLow (He.ga K "low_height") fd_low_height := ⟨ok_low_height F_low_height, He.glo_ok X G (c.fact 22 (f := .glo "low_height") rfl), F_low_height.kp, F_low_height.bindsN fun _ _ _ _ _ _ us hl => match us, hl with | [_], _ => rfl⟩
  obtain ⟨fd_edges_of, F_edges_of⟩ := c.def_ 25 (d := d_edges_of) rfl
  have F_edges_of : FnP K "edges_of" s_edges_of (He.ga K "edges_of") fd_edges_of := F_edges_of
  have u_edges_of : Use P w K mg base "edges_of" 4 ["bottom", "pairs"] spEdges (He.ga K "edges_of") fd_edges_of := ⟨ok_edges_of F_edges_of N u_low_height u_round_up, He.glo_ok X G (c.fact 23 (f := .glo "edges_of") rfl), F_edges_of.kp, F_edges_of.bindsN fun _ _ _ _ _ _ us hl => match us, hl with | [_, _], _ => rfl⟩
  obtain ⟨fd_edge_sum, F_edge_sum⟩ := c.def_ 26 (d := d_edge_sum) rfl
  have F_edge_sum : FnP K "edge_sum" s_edge_sum (He.ga K "edge_sum") fd_edge_sum := F_edge_sum
  have u_edge_sum : Use P w K mg base "edge_sum" 2 ["edge", "row", "sign"] spEdgeSum (He.ga K "edge_sum") fd_edge_sum := ⟨ok_edge_sum F_edge_sum N u_floor_sum, He.glo_ok X G (c.fact 24 (f := .glo "edge_sum") rfl), F_edge_sum.kp, F_edge_sum.bindsN fun _ _ _ _ _ _ us hl => match us, hl with | [_, _, _], _ => rfl⟩
  have cl_O : Cls K (He.ga K "Outline") := He.cls_ok (c.fact 65 (f := .cls "Outline") rfl)
  have mk_O : Mk K (He.ga K "Outline") (He.ma K (He.ga K "Outline") "__init__") := He.mkr_ok (c.fact 74 (f := .mkr "Outline") rfl)
  have g_O : mg "Outline" = some (.ref (He.ga K "Outline")) := He.glo_ok X G (c.fact 64 (f := .glo "Outline") rfl)
  have cl_G : Cls K (He.ga K "Grown") := He.cls_ok (c.fact 76 (f := .cls "Grown") rfl)
  have mk_G : Mk K (He.ga K "Grown") (He.ma K (He.ga K "Grown") "__init__") := He.mkr_ok (c.fact 92 (f := .mkr "Grown") rfl)
  have g_G : mg "Grown" = some (.ref (He.ga K "Grown")) := He.glo_ok X G (c.fact 75 (f := .glo "Grown") rfl)
  have cf : CF K (He.ga K "Outline") := ⟨cl_O, He.noat_ok (c.fact 66 (f := .noat "Outline" "bottom") rfl), He.noat_ok (c.fact 67 (f := .noat "Outline" "corners") rfl), He.noat_ok (c.fact 68 (f := .noat "Outline" "shut") rfl), He.noat_ok (c.fact 69 (f := .noat "Outline" "pairs") rfl)⟩
  have cg : CG K (He.ga K "Grown") := ⟨⟨cl_G, He.noat_ok (c.fact 77 (f := .noat "Grown" "bottom") rfl), He.noat_ok (c.fact 78 (f := .noat "Grown" "corners") rfl), He.noat_ok (c.fact 79 (f := .noat "Grown" "shut") rfl), He.noat_ok (c.fact 80 (f := .noat "Grown" "pairs") rfl)⟩, He.noat_ok (c.fact 81 (f := .noat "Grown" "lowest") rfl), He.noat_ok (c.fact 82 (f := .noat "Grown" "highest") rfl), He.noat_ok (c.fact 83 (f := .noat "Grown" "rights") rfl), He.noat_ok (c.fact 84 (f := .noat "Grown" "lefts") rfl), He.noat_ok (c.fact 85 (f := .noat "Grown" "whole") rfl), He.noat_ok (c.fact 86 (f := .noat "Grown" "spans") rfl)⟩
  obtain ⟨fd_Oi, F_Oi⟩ := c.def_ 27 (d := d_Outline_init) rfl
  have F_Oi : FnM K "__init__" "Outline.__init__" s_Outline_init (He.ma K (He.ga K "Outline") "__init__") fd_Oi := F_Oi
  have b_Oi : Binds K fd_Oi ["self", "fence", "size"] [] := F_Oi.bindsN fun _ _ _ _ _ _ us hl => match us, hl with | [_, _, _], _ => rfl
  have i_O : UseI P w K mg base 2 (spInit K) (He.ma K (He.ga K "Outline") "__init__") fd_Oi := ⟨ok_Outline_init F_Oi N u_pairs_around, b_Oi⟩
  obtain ⟨fd_Ostake, F_Ostake⟩ := c.def_ 28 (d := d_Outline_is_corner_stake) rfl
  have F_Ostake : FnM K "is_corner_stake" "Outline.is_corner_stake" s_Outline_is_corner_stake (He.ma K (He.ga K "Outline") "is_corner_stake") fd_Ostake := F_Ostake
  have m_Ostake : UseM P w K mg base (He.ga K "Outline") "is_corner_stake" 1 ["self", "spot", "row"] (spStake K) (He.ma K (He.ga K "Outline") "is_corner_stake") fd_Ostake := ⟨ok_stake F_Ostake, He.meth_ok (c.fact 72 (f := .meth "Outline" "is_corner_stake") rfl), F_Ostake.bindsN fun _ _ _ _ _ _ us hl => match us, hl with | [_, _, _], _ => rfl⟩
  obtain ⟨fd_Ospan, F_Ospan⟩ := c.def_ 29 (d := d_Outline_side_span) rfl
  have F_Ospan : FnM K "side_span" "Outline.side_span" s_Outline_side_span (He.ma K (He.ga K "Outline") "side_span") fd_Ospan := F_Ospan
  have m_Ospan : UseM P w K mg base (He.ga K "Outline") "side_span" 3 ["self", "side"] (spSideSpan K) (He.ma K (He.ga K "Outline") "side_span") fd_Ospan := ⟨ok_side_span F_Ospan u_span_of, He.meth_ok (c.fact 73 (f := .meth "Outline" "side_span") rfl), F_Ospan.bindsN fun _ _ _ _ _ _ us hl => match us, hl with | [_, _], _ => rfl⟩
  obtain ⟨fd_Ostakes, F_Ostakes⟩ := c.def_ 30 (d := d_Outline_side_stakes) rfl
  have F_Ostakes : FnM K "side_stakes" "Outline.side_stakes" s_Outline_side_stakes (He.ma K (He.ga K "Outline") "side_stakes") fd_Ostakes := F_Ostakes
  have m_Ostakes : UseM P w K mg base (He.ga K "Outline") "side_stakes" 4 ["self", "side"] (spSideStakes K (He.ga K "Outline")) (He.ma K (He.ga K "Outline") "side_stakes") fd_Ostakes := ⟨ok_side_stakes F_Ostakes N cl_O m_Ostake m_Ospan u_span_count, He.meth_ok (c.fact 70 (f := .meth "Outline" "side_stakes") rfl), F_Ostakes.bindsN fun _ _ _ _ _ _ us hl => match us, hl with | [_, _], _ => rfl⟩
  obtain ⟨fd_Oholds, F_Oholds⟩ := c.def_ 31 (d := d_Outline_holds) rfl
  have F_Oholds : FnM K "holds" "Outline.holds" s_Outline_holds (He.ma K (He.ga K "Outline") "holds") fd_Oholds := F_Oholds
  have m_Oholds : UseM P w K mg base (He.ga K "Outline") "holds" 2 ["self", "point"] (spHolds K (He.ga K "Outline")) (He.ma K (He.ga K "Outline") "holds") fd_Oholds := ⟨ok_holds F_Oholds N u_turn_at, He.meth_ok (c.fact 71 (f := .meth "Outline" "holds") rfl), F_Oholds.bindsN fun _ _ _ _ _ _ us hl => match us, hl with | [_, _], _ => rfl⟩
  obtain ⟨fd_Gstake, F_Gstake⟩ := c.def_ 0 (d := d_G_stake) rfl
  have F_Gstake : FnM K "is_corner_stake" "Outline.is_corner_stake" s_Outline_is_corner_stake (He.ma K (He.ga K "Grown") "is_corner_stake") fd_Gstake := F_Gstake
  have m_Gstake : UseM P w K mg base (He.ga K "Grown") "is_corner_stake" 1 ["self", "spot", "row"] (spStake K) (He.ma K (He.ga K "Grown") "is_corner_stake") fd_Gstake := ⟨ok_stake F_Gstake, He.meth_ok (c.fact 90 (f := .meth "Grown" "is_corner_stake") rfl), F_Gstake.bindsN fun _ _ _ _ _ _ us hl => match us, hl with | [_, _, _], _ => rfl⟩
  obtain ⟨fd_Gspan, F_Gspan⟩ := c.def_ 1 (d := d_G_span) rfl
  have F_Gspan : FnM K "side_span" "Outline.side_span" s_Outline_side_span (He.ma K (He.ga K "Grown") "side_span") fd_Gspan := F_Gspan
  have m_Gspan : UseM P w K mg base (He.ga K "Grown") "side_span" 3 ["self", "side"] (spSideSpan K) (He.ma K (He.ga K "Grown") "side_span") fd_Gspan := ⟨ok_side_span F_Gspan u_span_of, He.meth_ok (c.fact 91 (f := .meth "Grown" "side_span") rfl), F_Gspan.bindsN fun _ _ _ _ _ _ us hl => match us, hl with | [_, _], _ => rfl⟩
  obtain ⟨fd_Gi, T, b_Gi⟩ := hS
  have i_G : UseI P w K mg base 6 (spGI K (He.ga K "Grown")) (He.ma K (He.ga K "Grown") "__init__") fd_Gi := ⟨ok_Grown_init T N cl_G i_O.ok b_Oi u_round_up u_edges_of m_Gspan, b_Gi⟩
  obtain ⟨fd_Gclosed, F_Gclosed⟩ := c.def_ 32 (d := d_Grown_closed_below) rfl
  have F_Gclosed : FnM K "closed_below" "Grown.closed_below" s_Grown_closed_below (He.ma K (He.ga K "Grown") "closed_below") fd_Gclosed := F_Gclosed
  have m_Gclosed : UseM P w K mg base (He.ga K "Grown") "closed_below" 3 ["self", "row"] (spClosed K (He.ga K "Grown")) (He.ma K (He.ga K "Grown") "closed_below") fd_Gclosed := ⟨ok_closed_below F_Gclosed N cl_G m_Gstake u_span_count u_edge_sum, He.meth_ok (c.fact 88 (f := .meth "Grown" "closed_below") rfl), F_Gclosed.bindsN fun _ _ _ _ _ _ us hl => match us, hl with | [_, _], _ => rfl⟩
  obtain ⟨fd_Gshut, F_Gshut⟩ := c.def_ 33 (d := d_Grown_shut_below) rfl
  have F_Gshut : FnM K "shut_below" "Grown.shut_below" s_Grown_shut_below (He.ma K (He.ga K "Grown") "shut_below") fd_Gshut := F_Gshut
  have m_Gshut : UseM P w K mg base (He.ga K "Grown") "shut_below" 3 ["self", "row"] (spShut K (He.ga K "Grown")) (He.ma K (He.ga K "Grown") "shut_below") fd_Gshut := ⟨ok_shut_below F_Gshut N cl_G m_Gstake u_span_count, He.meth_ok (c.fact 89 (f := .meth "Grown" "shut_below") rfl), F_Gshut.bindsN fun _ _ _ _ _ _ us hl => match us, hl with | [_, _], _ => rfl⟩
  obtain ⟨fd_Gbelow, F_Gbelow⟩ := c.def_ 34 (d := d_Grown_below) rfl
  have F_Gbelow : FnM K "below" "Grown.below" s_Grown_below (He.ma K (He.ga K "Grown") "below") fd_Gbelow := F_Gbelow
  have m_Gbelow : UseM P w K mg base (He.ga K "Grown") "below" 4 ["self", "row"] (spBelow K (He.ga K "Grown")) (He.ma K (He.ga K "Grown") "below") fd_Gbelow := ⟨ok_below F_Gbelow cl_G m_Gclosed m_Gshut, He.meth_ok (c.fact 87 (f := .meth "Grown" "below") rfl), F_Gbelow.bindsN fun _ _ _ _ _ _ us hl => match us, hl with | [_, _], _ => rfl⟩
  obtain ⟨fd_count_of, F_count_of⟩ := c.def_ 35 (d := d_count_of) rfl
  have F_count_of : FnP K "count_of" s_count_of (He.ga K "count_of") fd_count_of := F_count_of
  have u_count_of : Use P w K mg base "count_of" 8 ["fence", "size"] spCount (He.ga K "count_of") fd_count_of := ⟨ok_count_of F_count_of cg cl_G mk_G g_G i_G m_Gbelow, He.glo_ok X G (c.fact 25 (f := .glo "count_of") rfl), F_count_of.kp, F_count_of.bindsN fun _ _ _ _ _ _ us hl => match us, hl with | [_, _], _ => rfl⟩
  obtain ⟨fd_stake_count, F_stake_count⟩ := c.def_ 36 (d := d_stake_count) rfl
  have F_stake_count : FnP K "stake_count" s_stake_count (He.ga K "stake_count") fd_stake_count := F_stake_count
  have u_stake_count : Use P w K mg base "stake_count" 9 ["fence", "size"] spCount (He.ga K "stake_count") fd_stake_count := ⟨ok_stake_count F_stake_count u_require_fence u_require_size u_count_of, He.glo_ok X G (c.fact 26 (f := .glo "stake_count") rfl), F_stake_count.kp, F_stake_count.bindsN fun _ _ _ _ _ _ us hl => match us, hl with | [_, _], _ => rfl⟩
  obtain ⟨fd_side_count, F_side_count⟩ := c.def_ 37 (d := d_side_count) rfl
  have F_side_count : FnP K "side_count" s_side_count (He.ga K "side_count") fd_side_count := F_side_count
  have u_side_count : Use P w K mg base "side_count" 8 ["fence", "side", "size"] spSideCount (He.ga K "side_count") fd_side_count := ⟨ok_side_count F_side_count u_require_fence u_require_size u_require_side cf cl_O mk_O g_O i_O m_Ostakes, He.glo_ok X G (c.fact 27 (f := .glo "side_count") rfl), F_side_count.kp, F_side_count.bindsN fun _ _ _ _ _ _ us hl => match us, hl with | [_, _, _], _ => rfl⟩
  obtain ⟨fd_holds_stake, F_holds_stake⟩ := c.def_ 38 (d := d_holds_stake) rfl
  have F_holds_stake : FnP K "holds_stake" s_holds_stake (He.ga K "holds_stake") fd_holds_stake := F_holds_stake
  have u_holds_stake : Use P w K mg base "holds_stake" 8 ["fence", "size", "point"] spHoldsC (He.ga K "holds_stake") fd_holds_stake := ⟨ok_holds_stake F_holds_stake u_require_fence u_require_size u_require_point cf cl_O mk_O g_O i_O m_Oholds, He.glo_ok X G (c.fact 28 (f := .glo "holds_stake") rfl), F_holds_stake.kp, F_holds_stake.bindsN fun _ _ _ _ _ _ us hl => match us, hl with | [_, _, _], _ => rfl⟩
  obtain ⟨fd_below_count, F_below_count⟩ := c.def_ 39 (d := d_below_count) rfl
  have F_below_count : FnP K "below_count" s_below_count (He.ga K "below_count") fd_below_count := F_below_count
  have u_below_count : Use P w K mg base "below_count" 8 ["fence", "size", "row"] spBelowC (He.ga K "below_count") fd_below_count := ⟨ok_below_count F_below_count u_require_fence u_require_size u_require_integer cg cl_G mk_G g_G i_G m_Gbelow, He.glo_ok X G (c.fact 29 (f := .glo "below_count") rfl), F_below_count.kp, F_below_count.bindsN fun _ _ _ _ _ _ us hl => match us, hl with | [_, _, _], _ => rfl⟩
  obtain ⟨fd_law_turn, F_law_turn⟩ := c.def_ 42 (d := d_law_turn) rfl
  have F_law_turn : FnP K "_law_turn" s_law_turn (He.ga K "_law_turn") fd_law_turn := F_law_turn
  have u_law_turn : Use P w K mg base "_law_turn" 1 ["_law_one", "_law_two", "_law_three"] spTurn (He.ga K "_law_turn") fd_law_turn := ⟨ok_law_turn F_law_turn, He.glo_ok X G (c.fact 32 (f := .glo "_law_turn") rfl), F_law_turn.kp, F_law_turn.bindsN fun _ _ _ _ _ _ us hl => match us, hl with | [_, _, _], _ => rfl⟩
  obtain ⟨fd_law_draw, F_law_draw⟩ := c.def_ 41 (d := d_law_draw) rfl
  have F_law_draw : FnP K "_law_draw" s_law_draw (He.ga K "_law_draw") fd_law_draw := F_law_draw
  have u_law_draw : Use P w K mg base "_law_draw" 1 ["_law_pool_here", "_law_span"] spDraw (He.ga K "_law_draw") fd_law_draw := ⟨ok_law_draw F_law_draw N, He.glo_ok X G (c.fact 31 (f := .glo "_law_draw") rfl), F_law_draw.kp, F_law_draw.bindsN fun _ _ _ _ _ _ us hl => match us, hl with | [_, _], _ => rfl⟩
  obtain ⟨fd_law_pool, F_law_pool⟩ := c.def_ 40 (d := d_law_pool) rfl
  have F_law_pool : FnP K "_law_pool" s_law_pool (He.ga K "_law_pool") fd_law_pool := F_law_pool
  have u_law_pool : Use P w K mg base "_law_pool" 1 ["_law_script", "_law_at"] (spPool K) (He.ga K "_law_pool") fd_law_pool := ⟨ok_law_pool F_law_pool N, He.glo_ok X G (c.fact 30 (f := .glo "_law_pool") rfl), F_law_pool.kp, F_law_pool.bindsN fun _ _ _ _ _ _ us hl => match us, hl with | [_, _], _ => rfl⟩
  obtain ⟨fd_law_corners, F_law_corners⟩ := c.def_ 43 (d := d_law_corners) rfl
  have F_law_corners : FnP K "_law_corners" s_law_corners (He.ga K "_law_corners") fd_law_corners := F_law_corners
  have u_law_corners : Use P w K mg base "_law_corners" 2 ["_law_spots"] spCorn (He.ga K "_law_corners") fd_law_corners := ⟨ok_law_corners F_law_corners N u_law_turn, He.glo_ok X G (c.fact 33 (f := .glo "_law_corners") rfl), F_law_corners.kp, F_law_corners.bindsN fun _ _ _ _ _ _ us hl => match us, hl with | [_], _ => rfl⟩
  obtain ⟨fd_law_ten, F_law_ten⟩ := c.def_ 44 (d := d_law_ten) rfl
  have F_law_ten : FnP K "_law_ten" s_law_ten (He.ga K "_law_ten") fd_law_ten := F_law_ten
  have u_law_ten : Use P w K mg base "_law_ten" 2 ["_law_pool_here", "_law_far"] spTen (He.ga K "_law_ten") fd_law_ten := ⟨ok_law_ten F_law_ten u_law_draw, He.glo_ok X G (c.fact 34 (f := .glo "_law_ten") rfl), F_law_ten.kp, F_law_ten.bindsN fun _ _ _ _ _ _ us hl => match us, hl with | [_, _], _ => rfl⟩
  obtain ⟨fd_law_plot, F_law_plot⟩ := c.def_ 45 (d := d_law_plot) rfl
  have F_law_plot : FnP K "_law_plot" s_law_plot (He.ga K "_law_plot") fd_law_plot := F_law_plot
  have u_law_plot : Use P w K mg base "_law_plot" 3 ["_law_pool_here", "_law_far", "_law_most"] spPlot (He.ga K "_law_plot") fd_law_plot := ⟨ok_law_plot hull_ok ten_ok F_law_plot N u_law_draw u_law_corners u_law_ten, He.glo_ok X G (c.fact 35 (f := .glo "_law_plot") rfl), F_law_plot.kp, F_law_plot.bindsN fun _ _ _ _ _ _ us hl => match us, hl with | [_, _, _], _ => rfl⟩
  obtain ⟨fd_law_box, F_law_box⟩ := c.def_ 46 (d := d_law_box) rfl
  have F_law_box : FnP K "_law_box" s_law_box (He.ga K "_law_box") fd_law_box := F_law_box
  have u_law_box : Use P w K mg base "_law_box" 1 ["_law_plot_here", "_law_often"] spBox (He.ga K "_law_box") fd_law_box := ⟨ok_law_box F_law_box N, He.glo_ok X G (c.fact 36 (f := .glo "_law_box") rfl), F_law_box.kp, F_law_box.bindsN fun _ _ _ _ _ _ us hl => match us, hl with | [_, _], _ => rfl⟩
  obtain ⟨fd_law_is_stake, F_law_is_stake⟩ := c.def_ 47 (d := d_law_is_stake) rfl
  have F_law_is_stake : FnP K "_law_is_stake" s_law_is_stake (He.ga K "_law_is_stake") fd_law_is_stake := F_law_is_stake
  have u_law_is_stake : Use P w K mg base "_law_is_stake" 1 ["_law_plot_here", "_law_often", "_law_spot"] spLStake (He.ga K "_law_is_stake") fd_law_is_stake := ⟨ok_law_is_stake F_law_is_stake N, He.glo_ok X G (c.fact 37 (f := .glo "_law_is_stake") rfl), F_law_is_stake.kp, F_law_is_stake.bindsN fun _ _ _ _ _ _ us hl => match us, hl with | [_, _, _], _ => rfl⟩
  obtain ⟨fd_law_on_open, F_law_on_open⟩ := c.def_ 48 (d := d_law_on_open) rfl
  have F_law_on_open : FnP K "_law_on_open" s_law_on_open (He.ga K "_law_on_open") fd_law_on_open := F_law_on_open
  have u_law_on_open : Use P w K mg base "_law_on_open" 9 ["_law_plot_here", "_law_often"] spOpen (He.ga K "_law_on_open") fd_law_on_open := ⟨ok_law_on_open F_law_on_open N u_side_count u_law_is_stake, He.glo_ok X G (c.fact 38 (f := .glo "_law_on_open") rfl), F_law_on_open.kp, F_law_on_open.bindsN fun _ _ _ _ _ _ us hl => match us, hl with | [_, _], _ => rfl⟩
  obtain ⟨fd_law_one_more_right, F_law_one_more_right⟩ := c.def_ 49 (d := d_law_one_more_right) rfl
  have F_law_one_more_right : FnP K "_law_one_more_right" s_law_one_more_right (He.ga K "_law_one_more_right") fd_law_one_more_right := F_law_one_more_right
  have u_law_one_more_right : Use P w K mg base "_law_one_more_right" 10 ["_law_pool_here", "_law_plot_here", "_law_often"] spOne (He.ga K "_law_one_more_right") fd_law_one_more_right := ⟨ok_one law_more F_law_one_more_right N u_law_draw u_side_count u_law_is_stake u_stake_count, He.glo_ok X G (c.fact 39 (f := .glo "_law_one_more_right") rfl), F_law_one_more_right.kp, F_law_one_more_right.bindsN fun _ _ _ _ _ _ us hl => match us, hl with | [_, _, _], _ => rfl⟩
  obtain ⟨fd_law_spots_right, F_law_spots_right⟩ := c.def_ 50 (d := d_law_spots_right) rfl
  have F_law_spots_right : FnP K "_law_spots_right" s_law_spots_right (He.ga K "_law_spots_right") fd_law_spots_right := F_law_spots_right
  have u_law_spots_right : Use P w K mg base "_law_spots_right" 10 ["_law_pool_here", "_law_plot_here", "_law_often"] spSpots (He.ga K "_law_spots_right") fd_law_spots_right := ⟨ok_spots law_holds F_law_spots_right N u_law_draw u_holds_stake, He.glo_ok X G (c.fact 40 (f := .glo "_law_spots_right") rfl), F_law_spots_right.kp, F_law_spots_right.bindsN fun _ _ _ _ _ _ us hl => match us, hl with | [_, _, _], _ => rfl⟩
  obtain ⟨fd_law_right, F_law_right⟩ := c.def_ 51 (d := d_law_right) rfl
  have F_law_right : FnP K "_law_right" s_law_right (He.ga K "_law_right") fd_law_right := F_law_right
  have u_law_right : Use P w K mg base "_law_right" 11 ["_law_pool_here", "_law_plot_here", "_law_often"] spRight (He.ga K "_law_right") fd_law_right := ⟨ok_right law_below law_open F_law_right N u_stake_count u_law_on_open u_law_box u_below_count u_law_one_more_right u_law_spots_right, He.glo_ok X G (c.fact 41 (f := .glo "_law_right") rfl), F_law_right.kp, F_law_right.bindsN fun _ _ _ _ _ _ us hl => match us, hl with | [_, _, _], _ => rfl⟩
  exact ok_law F_law N u_law_pool u_law_draw u_law_plot u_law_right
end GF
set_option Elab.async false
set_option linter.all false
set_option maxRecDepth 100000
set_option maxHeartbeats 0
open PySem PySem.W PySem.Calls PyProof.Rows
theorem PySem.Challenge.cw_growfences_k73_whole_open_and_closed_sid_holds : PySem.Challenge.rw_growfences_k73_whole_open_and_closed_sid.Holds := by
  w_on; o_law
  refine HandSHeadRun.head_any (r := OpenLaw.row PySem.Challenge.rw_growfences_k73_whole_open_and_closed_sid) (q := view (OpenLaw.row PySem.Challenge.rw_growfences_k73_whole_open_and_closed_sid).prog [61]) (H := GF.hk) (ob := GF.ob) (M := 4000) (loose := GF.nm) (d := HandSHeadRun.topDef (OpenLaw.row PySem.Challenge.rw_growfences_k73_whole_open_and_closed_sid).prog 61) (kwd := []) GF.ob_eq
    (by kernel_rfl) (fun s => by kernel_rfl) GF.run (by kernel_rfl) (by kernel_rfl) (by kernel_rfl) (by rfl) (by first | assumption | decide +kernel) (by decide +kernel) ⟨rfl, rfl, rfl, rfl, rfl, by decide +kernel⟩ ?hw ?hc
  case hw => w_witness2
  case hc =>
    refine L2.walk_ofE (l := PySem.Challenge.rw_growfences_k73_whole_open_and_closed_sid) (n := 63) (k := 12) (x := "_law_script") (CX := L2.CX0) rfl (by decide) (by kernel_rfl) ⟨rfl, by decide, by decide⟩ ?F (fun _ _ _ _ z => z)
    intro w mg fa h Y G hmg0
    obtain ⟨K, KX, c⟩ := Y
    have hmg : mg ("law" : PySem.Str) = some (.ref fa) := by
      have e : (HandSHeadRun.topDef (OpenLaw.row PySem.Challenge.rw_growfences_k73_whole_open_and_closed_sid).prog 61).name = ("law" : PySem.Str) := by kernel_rfl
      rw [← e]
      exact hmg0
    obtain ⟨fd, hb, hF⟩ := GF.facts (P := (PySem.Challenge.rw_growfences_k73_whole_open_and_closed_sid).prog) (w := w) (by kernel_rfl) (by kernel_rfl) KX G hmg c
    exact ⟨K, fd, GF.spLaw K, KX, hb, fun H a ns hl _ hS => ⟨a, ns, rfl, hS, fun _ => rfl⟩, hF⟩
