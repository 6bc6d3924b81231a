import PyProof.Rows.All
import Wide.All
import OpenK.AllK
import Wide.FinOn
import HandS.ForMost
import HandS.Exc
import HandS.Codes
import HandS.HotCalls
import KE.KExcIs
import HandS.ExcInit
import HandS.ExcValue
import PyProof.ExcRepr
import PyProof.ExcStrAll.ValueError
import PyProof.ReprReads
import PyProof.StrHeap
import HandS.DeepEq
import HandS.RaiseMore
import KE.KEqNest
import HandS.ExcField
import HandS.ExcIs
import HandS.TryOnly
import HandS.WordsExc
import KE.KeyNested
import KE.SortData
import HandS.TupSets
import HandS.More
import HandS.Conv
import KE.GoesEnum
import HandS.Walk
import HandS.TupAny
import PyProof.ReprLen
import PyProof.IsiHeapPairs
import HandS.Strs
import HandS.WrittenGet
import HandS.IsInst
import HandS.IterVal
import HandS.Small
import HandS.Sort
import KE.LtData
import KE.LtSeq
import KE.KSortAsk
import KE.KSortTup
import HandS.Star
import HandS.Iter
import HandS.Style
import HandS.HeadHook3
import PySem.Challenge.RW_goneyet_k22_least_lots_of_rows
set_option Elab.async false
set_option linter.all false
set_option maxRecDepth 100000
set_option maxHeartbeats 4000000
namespace Gy
open PySem L2
def top (i : Nat) : Stmt := PySem.Challenge.pw_goneyet_k22_least_lots_of_rows.main.body.getD i (.Pass ⟨0, 0, 0, 0⟩)
abbrev sBag : Stmt := top 25
abbrev sTake : Stmt := top 26
abbrev sSome : Stmt := top 27
/-- all that stood but what is at b stands as it was -/
def Ext (b : Addr) (H H' : Hp) : Prop := ∀ a o, a ≠ b → H a = some o → H' a = some o
theorem Ext.refl (b : Addr) (H : Hp) : Ext b H H := fun _ _ _ h => h
theorem Ext.trans {b : Addr} {H H1 H2 : Hp} (x : Ext b H H1) (y : Ext b H1 H2) : Ext b H H2 := fun a o n h => y a o n (x a o n h)
theorem Ext.new {b : Addr} {H H1 : Hp} {p : Addr} {o : HO} (x : Ext b H H1) (hp : H1 p = none) : Ext b H (upd H1 p o) := fun a u n h => by
  have q := x a u n h
  rw [upd_ne (ne_of_none q hp)]; exact q
theorem Ext.put {b : Addr} {H H1 : Hp} {o : HO} (x : Ext b H H1) : Ext b H (upd H1 b o) := fun a u n h => by
  rw [upd_ne n]; exact x a u n h
/-- the bag at b, its cells at c -/
structure BagAt (H : Hp) (b c : Addr) (x0 x1 x2 : Int) (ns : List Int) : Prop where
  hb : H b = some (.lst [.int x0, .int x1, .int x2, .ref c])
  hc : H c = some (.lst (ns.map V.int))
  p0 : 0 ≤ x0
  p1 : 0 ≤ x1
  q1 : x1 < 2147483647
  p2 : 0 ≤ x2
  pc : ∀ n ∈ ns, 0 ≤ n
  lc : ns.length ≤ 63
def BagC (c : Addr) (H : Hp) (b : Addr) : Prop := ∃ x0 x1 x2 ns, BagAt H b c x0 x1 x2 ns
def Bag (H : Hp) (b : Addr) : Prop := ∃ c, BagC c H b
theorem BagAt.ne {H : Hp} {b c : Addr} {x0 x1 x2 : Int} {ns : List Int} (h : BagAt H b c x0 x1 x2 ns) : c ≠ b := fun e => by
  have h1 := h.hb
  have h2 := h.hc
  rw [e, h1] at h2
  have h3 := Option.some.inj h2
  injection h3 with h4
  match ns, h4 with
  | [_, _, _, d], h4 => injection h4 with _ h4; injection h4 with _ h4; injection h4 with _ h4; injection h4 with h4 _; cases h4
theorem BagAt.new {H : Hp} {b c : Addr} {x0 x1 x2 : Int} {ns : List Int} (h : BagAt H b c x0 x1 x2 ns) {p : Addr} {o : HO} (hp : H p = none) : BagAt (upd H p o) b c x0 x1 x2 ns :=
  ⟨by rw [upd_ne (ne_of_none h.hb hp)]; exact h.hb, by rw [upd_ne (ne_of_none h.hc hp)]; exact h.hc, h.p0, h.p1, h.q1, h.p2, h.pc, h.lc⟩
theorem BagAt.put {H : Hp} {b c : Addr} {x0 x1 x2 y0 y1 y2 : Int} {ns : List Int} (h : BagAt H b c x0 x1 x2 ns) (a0 : 0 ≤ y0) (a1 : 0 ≤ y1) (a2 : y1 < 2147483647) (a3 : 0 ≤ y2) :
    BagAt (upd H b (.lst [.int y0, .int y1, .int y2, .ref c])) b c y0 y1 y2 ns :=
  ⟨upd_same, by rw [upd_ne h.ne]; exact h.hc, a0, a1, a2, a3, h.pc, h.lc⟩
theorem Bag.new {H : Hp} {b : Addr} (h : Bag H b) {p : Addr} {o : HO} (hp : H p = none) : Bag (upd H p o) b := by
  obtain ⟨c, x0, x1, x2, ns, h⟩ := h
  exact ⟨c, x0, x1, x2, ns, h.new hp⟩
structure TxtA (mg : Str → Option Value) : Prop where
  int : mg "int" = none
  abs : mg "abs" = none
  len : mg "len" = none
def spBag (K : PySem.W.Frag) : Sp := fun vs H Q _ => ∃ (a : Addr) (ns : List Int), vs = [.ref a] ∧ SqL K H a (ns.map V.int) ∧ ∀ (H' : Hp) (b : Addr), Same H H' → H b = none → Bag H' b → Q (.ref b) H'
def spTake : Sp := fun vs H Q _ => ∃ (b c : Addr) (n : Int), vs = [.ref b, .int n] ∧ 0 < n ∧ n < 1000000000 ∧ BagC c H b ∧ ∀ (r : Int) (H' : Hp), 0 ≤ r → r < n → Ext b H H' → BagC c H' b → Q (.int r) H'
/-- a list or a tuple -/
def SqQ (H : Hp) (l : Addr) (xs : List V) : Prop := H l = some (.lst xs) ∨ H l = some (.tup xs)
theorem SqQ.ext {b l : Addr} {H H' : Hp} {xs : List V} (h : SqQ H l xs) (hb : l ≠ b) (e : Ext b H H') : SqQ H' l xs := h.imp (e _ _ hb) (e _ _ hb)
theorem SqQ.seq {K : PySem.W.Frag} {l : Addr} {H : Hp} {xs : List V} (h : SqQ H l xs) : SqL K H l xs ∨ SqT K H l xs := h.imp SqL.of SqT.of
def spSome (K : PySem.W.Frag) : Sp := fun vs H Q _ => ∃ (b c l : Addr) (xs : List V), vs = [.ref b, .ref l] ∧ l ≠ b ∧ SqQ H l xs ∧ 0 < xs.length ∧ xs.length < 1000000000 ∧ BagC c H b ∧
  ∀ (v : V) (H' : Hp), v ∈ xs → Ext b H H' → BagC c H' b → Q v H'
theorem get_list {X : Cx} : PGet X (rIxL X.K) := by
  intro pins s σ H o i ov iv Q I ro ri h
  obtain ⟨p, xs, k, z, rfl, rfl, hq, he, q⟩ := h
  cases ro
  obtain ⟨t, rfl⟩ := ri
  obtain ⟨its, r, pl, hz⟩ := I.list hq
  obtain ⟨j, h1, h2, h3, h4, h5⟩ := atI_get he
  obtain ⟨w, ew, rw'⟩ := r.get h2
  have hl := r.length
  have hn := line63
  have fin : EP X pins σ Q w s := ⟨z, H, I, rw', q⟩
  by_cases h0 : 0 ≤ k
  · have hj : k.toNat = j := by
      rw [seqIndex_of h0 h5] at h1
      exact Option.some.inj h1
    exact wpAny_getItem_list pl.isList h0 (by omega) (by rw [hj]; simpa using ew) fin
  · have hj : (k + (its.toArray.size : Int)).toNat = j := by
      rw [seqIndex_neg (by omega) h4] at h1
      rw [List.size_toArray, ← hl]
      exact Option.some.inj h1
    exact wpAny_getItem_list_neg pl.isList (by omega) (by rw [List.size_toArray] <;> omega) (by omega) (by rw [hj]; simpa using ew) fin
end Gy

namespace Gy
open PySem L2
section
variable {P : Program} {w : World} {K : PySem.W.Frag} {mg : Str → Option Value} {base : Heap}
theorem nz1 : (2147483647 : Int) ≠ 0 := by decide
theorem nz2 : (1000000007 : Int) ≠ 0 := by decide
theorem nz3 : (998244353 : Int) ≠ 0 := by decide
theorem scTake : FnScope ["_law_bag_here", "_law_upto", "_law_cell", "_law_stirred", "_law_value", "_law_begin", "_law_second"] ["_law_bag_here", "_law_upto"] (defScope sTake) := ⟨rfl, rfl, rfl, by decide +kernel, rfl, by decide +kernel, by decide +kernel⟩
theorem ok_take {f : Addr} {fd : FuncData} (F : Fun K "_law_take" "_law_take" sTake f fd) (T : TxtA mg) : FnOk P w K mg base CX0 1 f fd ["_law_bag_here", "_law_upto"] spTake := by
  refine F.ok scTake (fun vs H Q E h => ?_) (fun cdv A outer s H vs Q E hr h => ?_)
  · obtain ⟨b, c, n, rfl, _⟩ := h
    rfl
  · obtain ⟨b, c, n, rfl, n0, n1, B, k⟩ := h
    have nd := scTake.nd
    refine ⟨_, C8.pss_cut (ps_if (pt_cmpR op_eq (pe_ix ix_list (pv 0) pe_int (fun _ _ => rfl)) pe_int (nomark _))
        (pss_cons (ps_set (i := 2) nd rfl (Or.inl rfl) (pe_ix ix_list (pe_op op_cat (pe_slice sl_list (pe_ix ix_list (pv 0) pe_int (fun _ _ => rfl)) (po_some (pe_ix ix_list (pv 0) pe_int (fun _ _ => rfl))) po_none) (pe_lst (pa_cons pe_int pa_nil))) pe_int (fun _ _ => rfl)))
        (pss_cons (ps_augS (pv 0) pe_int get_list pe_int ip_add set_list)
        (C8.pss_cut (ps_if (pt_cmpR op_ge (pv 2) (pe_op op_pow pe_int pe_int) (nomark _)) (pss_one (ps_asg (pv 2) (pg_sub (pv 0) pe_int set_list))) pss_nil)
        (pss_cons (ps_set (i := 3) nd rfl (Or.inl rfl) (pe_op op_add (pe_op op_add (pe_op op_mul (pe_ix ix_list (pv 0) pe_int (fun _ _ => rfl)) pe_int) (pe_op op_modN (pe_callTy call_int1 (by rfl) T.int (by decide +kernel) (pa_cons (pv 2) pa_nil)) pe_int)) (pe_op op_mul pe_int (pe_ix ix_list (pv 0) pe_int (fun _ _ => rfl)))))
        (pss_one (ps_asg (pe_op op_modN (pe_callTy call_int1 (by rfl) T.int (by decide +kernel) (pa_cons (pv 3) pa_nil)) pe_int) (pg_sub (pv 0) pe_int set_list)))))))
        pss_nil)
      (pss_cons (ps_if (pt_cmpR op_gt (pe_ix ix_list (pv 0) pe_int (fun _ _ => rfl)) pe_int (nomark _))
        (pss_cons (ps_set (i := 4) nd rfl (Or.inl rfl) (pe_op op_modN (pe_callTy call_int1 (by rfl) T.int (by decide +kernel) (pa_cons (pe_ix ix_list (pv 0) pe_int (fun _ _ => rfl)) pa_nil)) (pv 1)))
        (pss_cons (ps_asg (pe_op op_fdivN (pe_callTy call_int1 (by rfl) T.int (by decide +kernel) (pa_cons (pe_ix ix_list (pv 0) pe_int (fun _ _ => rfl)) pa_nil)) (pv 1)) (pg_sub (pv 0) pe_int set_list))
        (pss_one (ps_ret (pv 4)))))
        pss_nil)
      (pss_cons (ps_set (i := 5) nd rfl (Or.inl rfl) (pe_op op_modN (pe_callTy call_int1 (by rfl) T.int (by decide +kernel) (pa_cons (pe_op op_mul (pe_op op_add (pe_ix ix_list (pv 0) pe_int (fun _ _ => rfl)) pe_int) pe_int) pa_nil)) pe_int))
      (pss_cons (ps_set (i := 6) nd rfl (Or.inl rfl) (pe_op op_modN (pe_callTy call_int1 (by rfl) T.int (by decide +kernel) (pa_cons (pe_op op_mul (pe_op op_modN (pe_callTy call_int1 (by rfl) T.int (by decide +kernel) (pa_cons (pe_op op_mul (pv 5) (pv 5)) pa_nil)) pe_int) pe_int) pa_nil)) pe_int))
      (pss_one (ps_ret (pe_op op_modN (pe_callTy call_int1 (by rfl) T.int (by decide +kernel) (pa_cons (pe_op op_fdivN (pv 6) pe_int) pa_nil)) (pv 1))))))), ?_⟩
    obtain ⟨x0, x1, x2, ns, B0⟩ := B
    let Mid : St → Hp → Prop := fun σ H' => (∃ v2 v3 v4 v5 v6, σ = [some (.ref b), some (.int n), v2, v3, v4, v5, v6]) ∧ Ext b H H' ∧ ∃ y0 y1 y2, BagAt H' b c y0 y1 y2 ns
    refine ⟨Mid, ?_, ?_⟩
    · -- the first if
      refine ⟨_, rfl, _, _, _, _, rfl, rfl, SqL.of B0.hb, rfl, rfl, _, rfl, ?_⟩
      refine ite2 (fun _ => ?_) (fun _ => ⟨⟨_, _, _, _, _, rfl⟩, Ext.refl _ _, _, _, _, B0⟩)
      -- _law_cell = (bag[3][bag[2]:] + [0])[0]
      refine ⟨_, rfl, _, _, _, _, rfl, rfl, SqL.of B0.hb, rfl, _, rfl, _, _, _, _, rfl, rfl, SqL.of B0.hb, rfl, _, rfl, c, ns.map V.int, rfl, SqL.of B0.hc, fun p hp => ?_⟩
      have B1 := B0.new (o := .lst (cutV (ns.map V.int) (some x2) none)) hp
      have e1 : Ext b H (upd H p (.lst (cutV (ns.map V.int) (some x2) none))) := (Ext.refl b H).new hp
      refine ⟨by show 1 ≤ sizeLine; decide, fun p2 hp2 => ?_⟩
      have B2 := B1.new (o := .lst [.int 0]) hp2
      have e2 := e1.new (o := .lst [.int 0]) hp2
      have n12 : p ≠ p2 := fun e => by rw [← e, upd_same] at hp2; cases hp2
      have cl : (cutV (ns.map V.int) (some x2) none).length ≤ 63 := Nat.le_trans (cutV_length _ _ _) (by rw [List.length_map]; exact B0.lc)
      refine ⟨p, p2, _, _, rfl, rfl, (upd_ne n12).trans upd_same, upd_same, Nat.le_trans (Nat.add_le_add cl (Nat.le_refl _)) (by show 64 ≤ sizeLine; decide), fun p3 hp3 => ?_⟩
      have B3 := B2.new (o := .lst (cutV (ns.map V.int) (some x2) none ++ [.int 0])) hp3
      have e3 := e2.new (o := .lst (cutV (ns.map V.int) (some x2) none ++ [.int 0])) hp3
      obtain ⟨cell, hcell, cell0⟩ : ∃ z : Int, (cutV (ns.map V.int) (some x2) none ++ [V.int 0])[0]? = some (.int z) ∧ 0 ≤ z := by
        cases hh : cutV (ns.map V.int) (some x2) none with
        | nil => exact ⟨0, rfl, Int.le_refl 0⟩
        | cons v r =>
          have hv : v ∈ cutV (ns.map V.int) (some x2) none := by rw [hh]; exact List.mem_cons_self
          have hv2 : v ∈ ns.map V.int := List.mem_of_mem_drop (List.mem_of_mem_take hv)
          obtain ⟨z, hz, rfl⟩ := List.mem_map.mp hv2
          exact ⟨z, rfl, B0.pc z hz⟩
      refine ⟨p3, _, 0, .int cell, rfl, rfl, SqL.of upd_same, atI_nat (j := 0) hcell, ?_⟩
      generalize upd (upd (upd H p (.lst (cutV (ns.map V.int) (some x2) none))) p2 (.lst [.int 0])) p3 (.lst (cutV (ns.map V.int) (some x2) none ++ [.int 0])) = H3 at B3 e3
      -- bag[2] += 1
      refine ⟨_, rfl, _, _, _, _, rfl, rfl, SqL.of B3.hb, rfl, _, _, rfl, rfl, _, _, _, _, rfl, rfl, B3.hb, rfl, ?_⟩
      have B4 := B3.put B3.p0 B3.p1 B3.q1 (Int.add_nonneg B3.p2 (by decide : (0 : Int) ≤ 1))
      have e4 := e3.put (o := .lst [.int x0, .int x1, .int (x2 + 1), .ref c])
      show C8.tCut _ _ _ _ (upd H3 b (.lst [.int x0, .int x1, .int (x2 + 1), .ref c]))
      generalize upd H3 b (.lst [.int x0, .int x1, .int (x2 + 1), .ref c]) = H4 at B4 e4
      -- if cell >= 10 ** 18: bag[0] = cell
      refine ⟨fun σ' H' => σ' = [some (.ref b), some (.int n), some (.int cell), none, none, none, none] ∧ Ext b H H' ∧ ∃ y0, BagAt H' b c y0 x1 (x2 + 1) ns, ?_, ?_⟩
      · refine ⟨_, rfl, _, _, rfl, rfl, (by show (0 : Int) ≤ 18 ∧ (18 : Int) ≤ 1000000 ∧ (10 : Int).natAbs < 2 ^ 64; decide), _, _, rfl, rfl, _, rfl, ?_⟩
        refine ite2 (fun _ => ?_) (fun _ => ⟨rfl, e4, _, B4⟩)
        refine ⟨_, rfl, _, rfl, _, _, _, _, rfl, rfl, B4.hb, rfl, rfl, e4.put, _, B4.put cell0 B4.p1 B4.q1 B4.p2⟩
      · rintro σ' H5 ⟨rfl, e5, y0, B5⟩
        have hs : 0 ≤ x1 * 48271 + cell.fmod 2147483647 + 7919 * (x2 + 1) := by
          have h1 := B5.p1
          have h2 := B5.p2
          have h3 : cell.fmod 2147483647 = cell % 2147483647 := Int.fmod_eq_emod_of_nonneg _ (by decide)
          rw [h3]
          omega
        -- stirred
        refine ⟨_, rfl, _, _, _, _, rfl, rfl, SqL.of B5.hb, rfl, _, _, rfl, rfl, .inr (by decide), _, rfl, .inl ⟨_, rfl, _, _, rfl, rfl, nz1, _, _, rfl, rfl, _, rfl, _, _, _, _, rfl, rfl, SqL.of B5.hb, rfl, _, _, rfl, rfl, .inl (by decide), _, _, rfl, rfl, ?_⟩⟩
        refine ⟨_, rfl, .inl ⟨_, rfl, _, _, rfl, rfl, nz1, _, rfl, _, _, _, _, rfl, rfl, B5.hb, rfl, ?_⟩⟩
        refine ⟨⟨_, _, _, _, _, rfl⟩, e5.put, _, _, _, B5.put B5.p0 ?_ ?_ B5.p2⟩
        · rw [Int.fmod_eq_emod_of_nonneg _ (by decide)]
          exact Int.emod_nonneg _ (by decide)
        · rw [Int.fmod_eq_emod_of_nonneg _ (by decide)]
          exact Int.emod_lt_of_pos _ (by decide)
    · -- the rest
      rintro σ H' ⟨⟨v2, v3, v4, v5, v6, rfl⟩, e0, y0, y1, y2, B1⟩
      have nn : n ≠ 0 := by omega
      refine ⟨_, rfl, _, _, _, _, rfl, rfl, SqL.of B1.hb, rfl, _, _, rfl, rfl, _, rfl, ?_⟩
      refine ite2 (fun _ => ?_) (fun _ => ?_)
      · refine ⟨_, rfl, _, _, _, _, rfl, rfl, SqL.of B1.hb, rfl, .inl ⟨_, rfl, _, rfl, _, _, rfl, rfl, nn, ?_⟩⟩
        refine ⟨_, rfl, _, _, _, _, rfl, rfl, SqL.of B1.hb, rfl, .inl ⟨_, rfl, _, rfl, _, _, rfl, rfl, ⟨nn, by omega⟩, _, rfl, _, _, _, _, rfl, rfl, B1.hb, rfl, ?_⟩⟩
        refine ⟨_, rfl, k _ _ ?_ ?_ e0.put ⟨_, _, _, ns, B1.put ?_ B1.p1 B1.q1 B1.p2⟩⟩
        · rw [Int.fmod_eq_emod_of_nonneg _ (by omega)]
          exact Int.emod_nonneg _ nn
        · rw [Int.fmod_eq_emod_of_nonneg _ (by omega)]
          exact Int.emod_lt_of_pos _ n0
        · rw [Int.fdiv_eq_ediv_of_nonneg _ (by omega)]
          exact Int.ediv_nonneg B1.p0 (by omega)
      · have q1 := B1.q1
        have p1 := B1.p1
        refine ⟨_, rfl, _, _, _, _, rfl, rfl, SqL.of B1.hb, rfl, _, _, rfl, rfl, _, _, rfl, rfl, .inr (by decide), .inl ⟨_, rfl, _, _, rfl, rfl, nz2, ?_⟩⟩
        have hb : ∀ z : Int, 0 ≤ z.fmod 1000000007 ∧ z.fmod 1000000007 < 1000000007 := fun z => by
          rw [Int.fmod_eq_emod_of_nonneg _ (by decide)]
          exact ⟨Int.emod_nonneg _ (by decide), Int.emod_lt_of_pos _ (by decide)⟩
        have hb2 := hb ((y1 + 1) * 39373)
        refine ⟨_, rfl, _, rfl, _, _, rfl, rfl, .inl ⟨by omega, by omega⟩, .inl ⟨_, rfl, _, _, rfl, rfl, nz3, _, _, rfl, rfl, .inr (by decide), .inl ⟨_, rfl, _, _, rfl, rfl, nz3, ?_⟩⟩⟩
        refine ⟨_, rfl, _, _, rfl, rfl, ⟨by decide, by decide⟩, .inl ⟨_, rfl, _, rfl, _, _, rfl, rfl, nn, k _ _ ?_ ?_ e0 ⟨_, _, _, ns, B1⟩⟩⟩
        · rw [Int.fmod_eq_emod_of_nonneg _ (by omega)]
          exact Int.emod_nonneg _ nn
        · rw [Int.fmod_eq_emod_of_nonneg _ (by omega)]
          exact Int.emod_lt_of_pos _ n0
end
end Gy

namespace Gy
open PySem L2
section
variable {P : Program} {w : World} {K : PySem.W.Frag} {mg : Str → Option Value} {base : Heap}
theorem scSome : FnScope ["_law_bag_here", "_law_things"] ["_law_bag_here", "_law_things"] (defScope sSome) := ⟨rfl, rfl, rfl, by decide +kernel, rfl, by decide +kernel, by decide +kernel⟩
structure TxtB (K : PySem.W.Frag) (mg : Str → Option Value) (fT : Addr) : Prop where
  a : TxtA mg
  gT : mg "_law_take" = some (.ref fT)
  kT : PySem.W.keepIn K (.ref fT) = true
theorem ok_some {f fT : Addr} {fd fdT : FuncData} (F : Fun K "_law_some" "_law_some" sSome f fd) (T : TxtB K mg fT) (FT : Fun K "_law_take" "_law_take" sTake fT fdT) (bT : Binds K fdT ["_law_bag_here", "_law_upto"] []) :
    FnOk P w K mg base CX0 2 f fd ["_law_bag_here", "_law_things"] (spSome K) := by
  have GT : FnOk P w K mg base CX0 1 fT fdT ["_law_bag_here", "_law_upto"] spTake := ok_take FT T.a
  refine F.ok scSome (fun vs H Q E h => ?_) (fun cdv A outer s H vs Q E hr h => ?_)
  · obtain ⟨b, c, l, xs, rfl, _⟩ := h
    rfl
  · obtain ⟨b, c, l, xs, rfl, hlb, hl, h0, h1, B, k⟩ := h
    refine ⟨_, pss_one (ps_ret (pe_ix ix_seq (pv 1) (pe_call GT hr rfl T.gT T.kT bT .nil pass0 (pa_cons (pv 0) (pa_cons (pe_callB call_len_seq (by rfl) T.a.len PySem.boot_len (pa_cons (pv 1) pa_nil)) pa_nil))) (fun _ _ => rfl))), ?_⟩
    refine ⟨_, rfl, _, rfl, _, rfl, l, _, rfl, hl.seq, b, c, _, rfl, by omega, by omega, B, fun r H' r0 r1 e B' => ?_⟩
    have hlt : r.toNat < xs.length := by omega
    have er : ((r.toNat : Nat) : Int) = r := Int.toNat_of_nonneg r0
    have q := atI_nat (xs := xs) (j := r.toNat) (v := xs[r.toNat]) (List.getElem?_eq_getElem hlt)
    rw [er] at q
    rcases hl.ext hlb e with z | z
    · exact .inl ⟨l, xs, r, _, rfl, rfl, SqL.of z, q, k _ _ (List.getElem_mem hlt) e B'⟩
    · exact .inr (.inl ⟨l, xs, r, _, rfl, rfl, SqT.of z, q, k _ _ (List.getElem_mem hlt) e B'⟩)
theorem tyes_go {σ : St} {H : Hp} {A B : Hp → Prop} (h : A H) : tYes σ H (fun b H3 => if b = true then A H3 else B H3) := iteT (B := B H) h
theorem scBag : FnScope ["_law_script", "_law_cell"] ["_law_script"] (defScope sBag) := ⟨rfl, rfl, rfl, by decide +kernel, rfl, by decide +kernel, by decide +kernel⟩
theorem ok_bag {f : Addr} {fd : FuncData} (F : Fun K "_law_bag" "_law_bag" sBag f fd) (T : TxtA mg) : FnOk P w K mg base CX0 1 f fd ["_law_script"] (spBag K) := by
  refine F.ok scBag (fun vs H Q E h => ?_) (fun cdv A outer s H vs Q E hr h => ?_)
  · obtain ⟨a, ns, rfl, _⟩ := h
    rfl
  · obtain ⟨a, ns, rfl, hS, k⟩ := h
    have nd := scBag.nd
    refine ⟨_, pss_one (ps_ret (pe_lst (pa_cons pe_int (pa_cons pe_int (pa_cons pe_int (pa_cons
      (pe_lc (own := [("_law_cell", 1)]) (g := gName 1) (tt := tYes) rfl nd (pi_list (pe_slice sl_list (pv 0) po_none (po_some pe_int))) (blkOk_by (own := [("_law_cell", 1)]) (N := ["_law_script", "_law_cell"]) (sc := defScope sBag) (by decide +kernel))
        (fun _ _ _ _ _ => pg_name (i := 1) nd rfl (Or.inl rfl)) (fun _ _ _ _ _ => pts_nil) (fun _ _ _ _ _ => pe_callB call_abs (by rfl) T.abs (by decide +kernel) (pa_cons (pv 1) pa_nil))) pa_nil)))))), ?_⟩
    refine ⟨_, rfl, _, rfl, a, ns.map V.int, rfl, hS, fun p hp => ?_⟩
    generalize hys : cutV (ns.map V.int) none (some 63) = ys
    have y63 : ys.length ≤ 63 := by
      rw [← hys]
      unfold cutV
      rw [List.length_take]
      have e : HT.sIx (ns.map V.int).length (ns.map V.int).length (some 63) = min 63 (ns.map V.int).length := HT.sIx_nat _ _ 63
      rw [e]
      omega
    have yint : ∀ y ∈ ys, ∃ z : Int, y = .int z := fun y hy => by
      rw [← hys] at hy
      obtain ⟨z, _, rfl⟩ := List.mem_map.mp (List.mem_of_mem_drop (List.mem_of_mem_take hy))
      exact ⟨z, rfl⟩
    have s1 : Same H (upd H p (.lst ys)) := fun b o e => by rw [upd_ne (ne_of_none e hp)]; exact e
    have hp1 : upd H p (.lst ys) p = some (.lst ys) := upd_same
    generalize upd H p (.lst ys) = H1 at s1 hp1
    refine ⟨p, rfl, ⟨_, SqL.of hp1⟩, fun D hD => ?_⟩
    have hpD : p ≠ D := ne_of_none hp1 hD
    refine lc_list (K := K) (a := p) (xs := ys) (fun i H' => Same H1 H' ∧ ∃ zs : List Int, H' D = some (.lst (zs.map V.int)) ∧ zs.length = i ∧ ∀ z ∈ zs, 0 ≤ z)
      ⟨fun b o e => by rw [upd_ne (ne_of_none e hD)]; exact e, [], upd_same, rfl, fun z h => by cases h⟩ (fun i H' _ ⟨e, _⟩ => SqL.of (e _ _ hp1)) ?_ ?_
    · rintro i x H' hi ⟨e, zs, hz, hl, h0⟩
      obtain ⟨z, rfl⟩ := yint x (List.mem_of_getElem? hi)
      have hlt : i < ys.length := (List.getElem?_eq_some_iff.mp hi).1
      refine ⟨rfl, tyes_go ?_⟩
      refine ⟨_, rfl, z, rfl, _, hz, Nat.lt_of_le_of_lt (by rw [List.length_map]; omega : (zs.map V.int).length ≤ 63) (by show 63 < sizeLine; decide), ?_⟩
      refine ⟨fun b o e' => ?_, zs ++ [if z < 0 then -z else z], by rw [upd_same, List.map_append]; rfl, by rw [List.length_append, hl]; rfl, fun y hy => ?_⟩
      · rw [upd_ne (ne_of_none e' hD)]
        exact e _ _ e'
      · rcases List.mem_append.mp hy with h | h
        · exact h0 y h
        · rw [List.mem_singleton] at h
          rw [h]
          split <;> omega
    · rintro H' ⟨e, zs, hz, hl, h0⟩
      refine ⟨by show 4 ≤ sizeLine; decide, fun b hb => ?_⟩
      have hbD : D ≠ b := ne_of_none hz hb
      refine k _ b (fun a' o e' => ?_) ?_ ⟨D, 0, 1234567891, 0, zs, upd_same, by rw [upd_ne hbD]; exact hz, by decide, by decide, by decide, by decide, h0, by omega⟩
      · have e2 := e _ _ (s1 _ _ e')
        rw [upd_ne (ne_of_none e2 hb)]
        exact e2
      · cases q : H b with
        | none => rfl
        | some o =>
          have e2 := e _ _ (s1 _ _ q)
          rw [hb] at e2
          cases e2
end
end Gy

namespace Gy
open PySem L2 PySem.Spec PyProof.Rows
abbrev RoomH := L2H.RoomH
/-- a def's promise where G holds of what runs around -/
structure FnG (G : Around → Prop) (P : Program) (w : World) (K : PySem.W.Frag) (mg : Str → Option Value) (base : Heap) (k : Nat) (f : Addr) (fd : FuncData) (ps : List Str) (sp : Sp) : Prop where
  len : ∀ vs H Q E, sp vs H Q E → vs.length = ps.length
  run : ∀ (A : Around) (outer : List Env) (s : Shared) (H : Hp) (args : Args) (us : List Value) (vs : List V) (Q : VK) (E : XK), RoomH k A → G A → Env0 P w K mg base A outer s H → BindsTo s fd args (ps.zip us) → Vals vs us → sp vs H Q E →
    codeAny (model P w) A (.call (.ref f) args) (CR CX0 outer P w H s Q E) s
def cxG (c : Bool) (P : Program) (w : World) (K : PySem.W.Frag) (mg : Str → Option Value) (base : Heap) (N : List Str) (qual : Str) (scope : Scope) (f : Addr) (cd : Value) (A : Around) (outer : List Env) (s : Shared) (H : Hp) (E : XK) : Cx :=
  { cxOf CX0 P w K mg base N qual scope f cd A outer s H E with calm := c }
theorem inv_startG {c : Bool} {P : Program} {w : World} {K : PySem.W.Frag} {mg : Str → Option Value} {base : Heap} {N ps : List Str} {qual : Str} {scope : Scope} {f : Addr} {cd : Value} {A : Around} {outer : List Env} {s s1 : Shared} {H : Hp} {E : XK} {us : List Value} {vs : List V}
    (S : FnScope N ps scope) (hc : c = true → A.handled = none) (e0 : Env0 P w K mg base A outer s H) (hl : vs.length = ps.length) (r : Vals vs us)
    (x : InCallC s s.heap.objs.size (bindL (envOfC qual scope s.heap.objs.size f cd).kindOf (ps.zip us) fun _ => none) (cellsFrom (s.heap.objs.size + 1) scope.names []) (bindC (envOfC qual scope s.heap.objs.size f cd).kindOf (ps.zip us) fun _ => none) s1) :
    Inv (cxG c P w K mg base N qual scope f cd A outer s H E) [] (L2.start N vs) H s1 := by
  have hpl : ps.length ≤ N.length := by have := congrArg List.length S.pre; rw [List.length_take] at this; omega
  obtain ⟨h1, tk, rfl, hk⟩ := x.done
  have noA : ∀ b : Addr, b ∉ (cxG c P w K mg base N qual scope f cd A outer s H E).ex := fun b z => absurd (show b ∈ ([] : List Addr) from z) (by simp)
  refine ⟨⟨e0.mod, S.kind, rfl, rfl, Nat.le_refl _, fun y z c h1 h2 => ?_, fun y hy => ?_, fun y c _ h => ?_, (fun z => hc z), Around.frames_deeper e0.frames, .inr ⟨rfl, rfl⟩, fun b z => absurd z (noA b), e0.bs, e0.bsz, fun b _ _ => noA b, fun b z => absurd z (noA b), e0.funs, e0.frf⟩,
    rfl, e0.bare, Un.kept hk, ⟨_, x.toInCall.ns, fun i y v h1 h2 h3 => ?_⟩, fun y c h => ⟨_, x.cell y c h⟩, e0.hok.fresh (Nat.le_refl _), fun y c h => ?_, fun p hp => absurd (show p ∈ ([] : List (Addr × Obj)) from hp) (by simp), e0.hok.kept hk, ?_⟩
  · exact name_of_addr x.apart (PySem.mem_of_lookup h1) (PySem.mem_of_lookup h2)
  · have hy : scope.names.lookup y = some .cell ∨ scope.names.lookup y = some .free := hy
    rcases hy with hy | hy
    · exact cell_has hy
    · exact absurd rfl (S.nofree _ (PySem.mem_of_lookup hy))
  · exact Nat.le_of_lt (x.above y c (PySem.mem_of_lookup h))
  · have hi : i < vs.length := by
      unfold L2.start at h2
      by_cases hi : i < vs.length
      · exact hi
      · rw [List.getElem?_append_right (by simpa using hi)] at h2
        rw [List.getElem?_replicate] at h2
        split at h2 <;> cases h2
    have ha : vs[i]? = some v := by
      unfold L2.start at h2
      rw [List.getElem?_append_left (by simpa using hi), List.getElem?_map] at h2
      cases e : vs[i]? with
      | none => rw [e] at h2; cases h2
      | some a => rw [e] at h2; cases h2; rfl
    obtain ⟨u, hu, rv⟩ := r.get ha
    have hp : ps[i]? = some y := by
      rw [← S.pre, List.getElem?_take_of_lt (by omega)]; exact h1
    have ndP : ps.Nodup := by rw [← S.pre]; exact S.nd.sublist (List.take_sublist _ _)
    refine ⟨u, rv, ?_⟩
    rcases S.par y (List.mem_of_getElem? hp) with k | k
    · exact .inl ⟨k, bindL_get ndP hp hu k⟩
    · obtain ⟨c, e⟩ := cell_has (n := s.heap.objs.size + 1) k
      refine .inr ⟨.inl k, c, e, ?_⟩
      have q := x.cell y c e
      rw [bindC_get ndP hp hu (by show scope.names.lookup y ≠ _; rw [k]; decide)] at q
      exact q
  · exact e0.hok.fresh (Nat.le_of_lt (x.above y c (PySem.mem_of_lookup h)))
  · unfold L2.start
    show _ = N.length
    rw [List.length_append, List.length_map, List.length_replicate]
    omega
/-- a def by its body, where G holds of what runs around -/
theorem fn_ofG {c : Bool} {G : Around → Prop} {P : Program} {w : World} {K : PySem.W.Frag} {mg : Str → Option Value} {base : Heap} {k : Nat} {f : Addr} {x qual : Str} {st : Stmt} {fd : FuncData} {N ps : List Str} {sp : Sp}
    (F : Fun K x qual st f fd) (S : FnScope N ps (defScope st)) (hc : ∀ A, G A → c = true → A.handled = none) (len : ∀ vs H Q E, sp vs H Q E → vs.length = ps.length)
    (hbody : ∀ (cdv : Value) (A : Around) (outer : List Env) (s : Shared) (H : Hp) (vs : List V) (Q : VK) (E : XK), G A → RoomH k (A.deeper (envOfC qual (defScope st) s.heap.objs.size f cdv)) → sp vs H Q E →
      ∃ t, PSs (cxG c P w K mg base N qual (defScope st) f cdv A outer s H E).nox (defBody st) t ∧ t { nx := fun _ H' => Q .non H', rt := Q } (L2.start N vs) H) :
    FnG G P w K mg base (k + 1) f fd ps sp := by
  obtain ⟨oc, od, kV, doc, pm, an, cdv, ct, osl, rfl, lk, hcd⟩ := F.ex
  refine ⟨len, fun A outer s H args us vs Q E hr hg e0 hb r hsp => ?_⟩
  have hl := len _ _ _ _ hsp
  have KX : K.In s.heap := e0.mod.kin.keeps fun b o e => (e0.bs b o e).1
  have lim : s.heap.NoLimit := e0.mod.nolimit.keeps fun b o e => (e0.bs b o e).1
  have hkind : ∀ y ∈ ps.zip us, (defScope st).names.lookup y.1 = some .local ∨ ((defScope st).names.lookup y.1 = some .cell ∧ ((cellsFrom (s.heap.objs.size + 1) (defScope st).names []).lookup y.1).isSome = true) := fun ⟨n, v⟩ hy => by
    rcases S.par n (List.of_mem_zip hy).1 with q | q
    · exact .inl q
    · exact .inr ⟨q, PySem.W.cellsFrom_some _ _ _ (.inl q)⟩
  refine codeAny_call_function hr.depth (KX _ _ lk) rfl S.co S.gen rfl (PySem.W.codeRec_of KX hcd) (hb _ _ _ _ ?_)
  refine wpAny_newFunctionEnv_cells S.kind hkind fun env he s1 x => ?_
  subst he
  refine ⟨lim.keeps x.toInCall.keep, codeAny_func ?_⟩
  obtain ⟨t, ht, hq⟩ := hbody cdv A outer s H vs Q E hg (hr.deeper _) hsp
  have I : Inv (cxG c P w K mg base N qual (defScope st) f cdv A outer s H E) [] (L2.start N vs) H s1 := inv_startG S (hc A hg) e0 hl r x
  refine wpAny_mono (ht.nox.run [] s1 (L2.start N vs) H _ I hq) (fun fl s' hs => ?_) fun e s' hs => hs
  have fin : ∀ {σ' : L2.St} {H' : Hp} {v : V} {u : Value}, Inv (cxG c P w K mg base N qual (defScope st) f cdv A outer s H E) [] σ' H' s' → RelV v u → Q v H' → CE outer P w H s Q u s' :=
    fun {σ' H' v u} J rv q => ⟨v, H', J.os, J.bare, J.base, J.hok, rv, q⟩
  cases fl with
  | ret u =>
    obtain ⟨v, σ', H', J, rv, q⟩ := hs
    exact fin J rv q
  | next =>
    obtain ⟨σ', H', J, q⟩ := hs
    exact fin (v := V.non) (u := Value.none) J rfl q
  | brk =>
    obtain ⟨_, _, _, q⟩ := hs
    exact False.elim q
  | cont =>
    obtain ⟨_, _, _, q⟩ := hs
    exact False.elim q
section
variable {G : Around → Prop} {X : Cx} {k : Nat} {f : Addr} {fd : FuncData} {ps : List Str} {sp : Sp} {E : XK} {x : Str} {q pos : Pos} {e : Expr} {es : List Expr} {t : TA}
theorem pe_callG (F : FnG G X.prog X.w X.K X.mg X.base k f fd ps sp) (hr : RoomH k X.A) (hG : G X.A) (hg : Gl X x) (hm : X.mg x = some (.ref f)) (hk : PySem.W.keepIn X.K (.ref f) = true) (hb : Binds X.K fd ps [])
    (ha : PA X (e :: es) t) (hdb : (x == ("__debug__" : Str)) = false := by decide) (he : starEach (e :: es) X.env = (false, eval e X.env) :: starEach es X.env := by rfl) (hpl : (backTo pos (starEach es X.env)).any (·.1) = false := by rfl) :
    PE X (.Call (.Name x q) (e :: es) [] pos) (fun σ H Q => t σ H fun vs H1 => sp vs H1 Q E0) := by
  refine ⟨fun pins s σ H Q I h => ?_⟩
  refine wpAny_Call_Name_kw (ld_glob I hg hm ?_ hdb)
  refine PySem.W.callWith_K (h₀ := X.base) I.ok.mod.kin hk (thn (ha.run pos pins s σ H _ I h) fun us s1 ⟨vs, H1, I1, r, q⟩ => ⟨I1.kIn, ?_⟩) he hpl
  have hl : us.length = ps.length := by rw [← r.length]; exact F.len _ _ _ _ q
  have b := hb s1 us I1.kIn (by rw [List.append_nil]; exact hl)
  rw [List.append_nil] at b
  refine wpAny_call (codeAny_mono (F.run X.A X.stack s1 H1 ⟨us, []⟩ us vs Q E0 hr hG I1.env0 b r q) fun r s' hq => ?_)
  cases r with
  | error e => exact False.elim hq
  | ok fl =>
    cases fl with
    | ret u => exact I1.after hq
    | next => exact False.elim hq
    | brk => exact False.elim hq
    | cont => exact False.elim hq
end
end Gy

namespace Gy
open PySem L2 PySem.Spec PyProof.Rows
/-- at e an exception of the class at C, its dict at d (or none as yet), its args the tuple at t -/
def exq (e C : Addr) (d : Option Addr) (t : Addr) : HO := .ext fun h => h.get? e = some ({ cls := .ref C, dict := d, data := .fields #[.ref t, .none, .none, .none, .bool false, .none] } : Obj)
theorem exq_own {e C x t : Addr} {d : Option Addr} : exq e C d t ≠ .own x := fun z => by
  have z' : HO.ext _ = HO.own x := z
  cases z'
theorem exq_tup {e C t : Addr} {d : Option Addr} {xs : List V} : exq e C d t ≠ .tup xs := fun z => by
  have z' : HO.ext _ = HO.tup xs := z
  cases z'
theorem exq_frz {e C t : Addr} {d : Option Addr} {o : Obj} {u : HO} : exq e C d t ≠ .frz o u := fun z => by
  have z' : HO.ext _ = HO.frz o u := z
  cases z'
theorem exq_tbl {e C t : Addr} {d : Option Addr} {ps : Array Value} : exq e C d t ≠ .tbl ps := fun z => by
  have z' : HO.ext _ = HO.tbl ps := z
  cases z'
theorem exq_lst {e C t : Addr} {d : Option Addr} {xs : List V} : exq e C d t ≠ .lst xs := fun z => by
  have z' : HO.ext _ = HO.lst xs := z
  cases z'
theorem exq_dK {e C t : Addr} {d : Option Addr} {xs : List (Key × V)} : exq e C d t ≠ .dK xs := fun z => by
  have z' : HO.ext _ = HO.dK xs := z
  cases z'
theorem exd_lst {e : Addr} {fs : List (Str × V)} {xs : List V} : exd e fs ≠ .lst xs := fun z => by
  have z' : HO.ext _ = HO.lst xs := z
  cases z'
theorem exd_frz {e : Addr} {fs : List (Str × V)} {o : Obj} {u : HO} : exd e fs ≠ .frz o u := fun z => by
  have z' : HO.ext _ = HO.frz o u := z
  cases z'
theorem exd_tbl {e : Addr} {fs : List (Str × V)} {ps : Array Value} : exd e fs ≠ .tbl ps := fun z => by
  have z' : HO.ext _ = HO.tbl ps := z
  cases z'
theorem exq_ok {P : Program} {w : World} {H : Hp} {h : Heap} {e C t : Addr} {d : Option Addr} (he : h.get? e = some ({ cls := .ref C, dict := d, data := .fields #[.ref t, .none, .none, .none, .bool false, .none] } : Obj)) : ObjOk P w H h e (exq e C d t) :=
  ⟨he, ⟨_, he⟩, fun h1 h2 z k => k _ z⟩
theorem exq_at {P : Program} {w : World} {H : Hp} {h : Heap} {e C t : Addr} {d : Option Addr} (hok : HOk P w H h) (he : H e = some (exq e C d t)) : h.get? e = some ({ cls := .ref C, dict := d, data := .fields #[.ref t, .none, .none, .none, .bool false, .none] } : Obj) := by
  have x : ObjOk P w H h e (.ext fun h => h.get? e = some ({ cls := .ref C, dict := d, data := .fields #[.ref t, .none, .none, .none, .bool false, .none] } : Obj)) := hok e _ he
  exact x.1
/-- what the written part says of an exception class of the program, for its instances -/
structure ExQ (K : PySem.W.Frag) (C : Addr) : Prop where
  oex : OexC K C
  ga : PySem.W.findIn K (.ref C) "__getattribute__" = some (some (.builtin "BaseException.__getattribute__"))
  gg : PySem.W.findIn K (.ref C) "__getattr__" = some none
  hd : PySem.W.hasDictIn K C = true
  cl : PySem.W.findIn K (.ref C) "__class__" = some (some (.builtin "object.__class__"))
  cn : PySem.W.specialIn K (.builtin "object.__class__") "__get__" = some (some (.builtin "getset_descriptor.__get__"))
  ct : PySem.W.takesIn K (.builtin "object.__class__") = some true
  cm : PySem.W.mroIn K C (.type "object") = some true
section
variable {X : Cx} {pins : List (Addr × Obj)} {σ : L2.St} {H : Hp} {s : Shared} {a C dx t0 : Addr} {f : Str} {y : V} {u : Value} {fs : List (Str × V)} {E : Value → Shared → Prop} {A : Around}
/-- self.f = y, the first one -/
theorem qst_new {Q : Unit → Shared → Prop} (T : OexC X.K C) (I : Inv X pins σ H s) (e : H a = some (exq a C none t0)) (hno : PySem.W.findIn X.K (.ref C) f = some none) (ry : RelV y u)
    (h : ∀ dx s', H dx = none → dx ≠ a → Inv X pins σ (upd (upd H dx (exd dx [(f, y)])) a (exq a C (some dx) t0)) s' → Q () s') : wpAny (model X.prog X.w) A (setAttr (.ref a) f u) Q E s := by
  obtain ⟨nm, q, N, bs, bm, sn, sub, ab, col, dd, k0, k1, k2, k3, k5, hC, hbm⟩ := T.cls
  have hcl : PySem.W.clsIn X.K C = some { name := nm, bases := bs, mro := .ref C :: bm, ns := N, qualname := q, hasDict := true, slotNames := sn, subclasses := sub, abstract := ab, collection := col, hasDel := false } := by unfold PySem.W.clsIn; rw [hC] <;> rfl
  have ho := exq_at I.hok e
  obtain ⟨hp, g, d, t, os⟩ := s
  refine PySem.W.set_plain I.kIn (ox := { cls := .ref C, dict := none, data := .fields #[.ref t0, .none, .none, .none, .bool false, .none] }) (od := none) ⟨ho, rfl, rfl, trivial⟩ T.sa ?_
  refine PySem.HandSPX.exc_osa I.kIn ho hcl (show PySem.HandSPX.refsVE (.ref C :: bm) = true from hbm) rfl hno (fun h' tk' dx k dn dne hx hn => ?_)
  have hnd : H dx = none := I.hok.fresh dn
  have nd : ∀ {b : Addr} {o : Obj}, hp.get? b = some o → b ≠ dx := fun {b o} q => Nat.ne_of_lt (Nat.lt_of_lt_of_le (Heap.lt_size q) dn)
  have na : ∀ {b : Addr}, H b = none → b ≠ a := fun {b} n z => by
    rw [z, e] at n
    cases n
  have Un1 : Un X.fs [] H (upd (upd H dx (exd dx [(f, y)])) a (exq a C (some dx) t0)) hp h' := {
    keep := fun b o q n _ _ => k b o (na n) q
    slot := fun b o q n _ _ => ⟨o.slots, k b o (na n) q⟩
    free := fun b o q n _ => by rw [upd_ne (na n), upd_ne (nd q)]; exact n
    there := fun b o q _ => by
      by_cases hb : b = a
      · exact ⟨_, by rw [hb]; exact hx⟩
      · exact ⟨o, k b o hb q⟩
    tups := fun b xs q => by rw [upd_ne (at_ne e q exq_tup), upd_ne (ne_of_none q hnd)]; exact q
    frzs := fun b o v q => by rw [upd_ne (at_ne e q exq_frz), upd_ne (ne_of_none q hnd)]; exact q
    tbls := fun b ps q => ⟨#[], by rw [upd_ne (at_ne e q exq_tbl), upd_ne (ne_of_none q hnd), q]; simp⟩ }
  refine h dx _ hnd dne (I.un (t' := tk') Un1 fun b o q => ?_)
  by_cases hb : b = a
  · subst hb
    rw [upd_same] at q
    cases q
    exact exq_ok hx
  · rw [upd_ne hb] at q
    by_cases hd : b = dx
    · subst hd
      rw [upd_same] at q
      cases q
      exact exd_ok hn (relO_put (fs := []) ry fun g => True.intro)
    · rw [upd_ne hd] at q
      exact (I.hok b o q).stay (fun c v hc z => k c v (by
          rcases hc with hc | hc
          · rw [hc]
            exact hb
          · exact at_ne e hc exq_own) z)
        (fun c hc => by rw [upd_ne (at_ne e hc exq_own), upd_ne (ne_of_none hc hnd)]; exact hc) (fun c xs hc => by rw [upd_ne (at_ne e hc exq_tup), upd_ne (ne_of_none hc hnd)]; exact hc)
/-- self.f = y, a further one -/
theorem qst_old {Q : Unit → Shared → Prop} (T : OexC X.K C) (I : Inv X pins σ H s) (e : H a = some (exq a C (some dx) t0)) (ed : H dx = some (exd dx fs)) (hl : fs.length ≤ 900) (hno : PySem.W.findIn X.K (.ref C) f = some none) (ry : RelV y u)
    (h : ∀ s', Inv X pins σ (upd H dx (exd dx ((f, y) :: fs))) s' → Q () s') : wpAny (model X.prog X.w) A (setAttr (.ref a) f u) Q E s := by
  obtain ⟨nm, q, N, bs, bm, sn, sub, ab, col, dd, k0, k1, k2, k3, k5, hC, hbm⟩ := T.cls
  have hcl : PySem.W.clsIn X.K C = some { name := nm, bases := bs, mro := .ref C :: bm, ns := N, qualname := q, hasDict := true, slotNames := sn, subclasses := sub, abstract := ab, collection := col, hasDel := false } := by unfold PySem.W.clsIn; rw [hC] <;> rfl
  have ho := exq_at I.hok e
  obtain ⟨mA, hns, rel⟩ := exd_at I.hok ed
  have hw := within_of rel
  obtain ⟨hp, g, d, t, os⟩ := s
  obtain ⟨oD, _, _, hoD, _, _⟩ := hns.count hw
  refine PySem.W.set_plain I.kIn (ox := { cls := .ref C, dict := some dx, data := .fields #[.ref t0, .none, .none, .none, .bool false, .none] }) (od := some oD) ⟨ho, rfl, rfl, hoD⟩ T.sa ?_
  refine PySem.OEX.osa_old I.kIn ho hns hw (by rw [List.length_map]; omega) hcl (show PySem.HandSPX.refsVE (.ref C :: bm) = true from hbm) rfl hno (fun h' tk' k hn => ?_)
  have hd : ∃ o, h'.get? dx = some o := by
    obtain ⟨o, _, _, e', _⟩ := hn
    exact ⟨o, e'⟩
  exact h _ (I.write (t' := tk') (x := dx) (e := dx) (o := exd dx ((f, y) :: fs)) (by rw [ed]; exact True.intro) (.inl rfl) k hd (exd_ok hn (relO_put ry rel)))
end
end Gy

namespace PySem
namespace GyPX
open PySem.W PySem.Calls PyProof.Rows PySem.HandSPX
section
open Builtin Builtin.ObjectAttr
variable {prog : Program} {w : World} {A : Around} {E : Value → Shared → Prop} {R : Result → Shared → Prop} {h : Heap} {g : Array GenState} {d : Drawn} {t : Nat} {os : OsState}
variable {nm q : Str} {C N : Addr} {bs bm bmB : List Value} {hdct : Bool} {sn : List Str} {sub : List Value} {ab : Bool} {col : Option Bool} {dd : Option Addr} {k0 k1 k2 k3 k5 : Option Value} {B newId initId : String}
/-- ValueError.__init__(e, ..): the args are laid anew, and told -/
theorem init_told (F : ExcBaseFacts B newId initId bmB) (hT : ∀ X : String, bm.contains (.type X) = bmB.contains (.type X)) {e t0 : Addr} {rest : List Value}
    (hC : h.get? C = some (excClassObj nm q C N bs bm hdct sn sub ab col dd k0 k1 k2 k3 k5 newId)) (he : h.get? e = some (excO C t0)) (hrest : rest.length ≤ sizeLine)
    (hq : ∀ h', (∀ b o, b ≠ e → (h.push (kdv_tup rest)).get? b = some o → h'.get? b = some o) → h'.get? e = some (excO C h.objs.size) → R (.ok (.ret .none)) ⟨h', g, d, t, os⟩) :
    codeAny (model prog w) A (.call (.builtin initId) ⟨.ref e :: rest, []⟩) R ⟨h, g, d, t, os⟩ := by
  refine codeAny_call_builtin F.init.plain F.initEntry (check_init_own F hT hC he rfl ?_)
  wp_walk
  refine hq _ (fun b o hb ho => ?_) ?_
  · rw [Heap.get?_update_other _ _ (Ne.symm hb)]
    exact ho
  · rw [Heap.get?_update_self _ (Heap.get?_push_of_some _ he) rfl]
    rfl
end
end GyPX
end PySem
namespace Gy
open PySem L2 PySem.Spec PyProof.Rows
section
variable {X : Cx} {pins : List (Addr × Obj)} {σ : L2.St} {H : Hp} {s : Shared} {a C dx t0 : Addr} {f : Str} {y : V} {u : Value} {fs : List (Str × V)} {E : Value → Shared → Prop} {A : Around}
theorem qinit_ok {us : List Value} {vs : List V} {Q : Value → Shared → Prop} (T : OexC X.K C) (I : Inv X pins σ H s) (e : H a = some (exq a C none t0)) (r : Vals vs us) (hl : us.length ≤ sizeLine)
    (h : ∀ t1 s', H t1 = none → t1 ≠ a → Inv X pins σ (upd (upd H t1 (.tup vs)) a (exq a C none t1)) s' → Q .none s') :
    wpAny (model X.prog X.w) A (call (.builtin "ValueError.__init__") (.ref a :: us)) Q E s := by
  obtain ⟨nm, q, N, bs, bm, sn, sub, ab, col, dd, k0, k1, k2, k3, k5, hC, hbm⟩ := T.cls
  have ho := exq_at I.hok e
  obtain ⟨hp, g, d, t, os⟩ := s
  refine wpAny_call (PySem.GyPX.init_told F.excBase_ValueError (fun Y => PySem.HandSPX.refsVE_contains Y bm hbm) (I.kIn _ _ hC) ho hl fun h' k hx => ?_)
  have hn : H hp.objs.size = none := I.hok.fresh (Nat.le_refl _)
  have hne : hp.objs.size ≠ a := fun z => by rw [z, e] at hn; cases hn
  have I1 : Inv X pins σ (upd H hp.objs.size (.tup vs)) ⟨hp.push (PySem.W.kdv_tup us), g, d, t, os⟩ := I.laid (t' := t) (fun b o e => Heap.get?_push_of_some _ e) (Nat.le_refl _) ⟨by rw [r.length]; exact hl, us, r, ⟨_, Heap.get?_push_size _ rfl, rfl, _, rfl⟩⟩
  have e1 : upd H hp.objs.size (.tup vs) a = some (exq a C none t0) := by rw [upd_ne (Ne.symm hne)]; exact e
  have J := I1.write (t' := t) (x := a) (e := a) (o := exq a C none hp.objs.size) (by rw [e1]; exact True.intro) (.inl rfl) k ⟨_, hx⟩ (exq_ok hx)
  exact h _ _ hn hne J
end
section
variable {X : Cx} {o e : Expr} {es : List Expr} {to te : TE} {ta : TA} {f n : Str} {p p' p1 p2 pos : Pos}
/-- B.__init__(self, ..), B a class of the program over ValueError that has no __init__ of its own -/
def tQinit (ta : TA) (K : PySem.W.Frag) : TE := fun σ H Q => ta σ H fun vs H1 => ∃ (a C t0 : Addr) (ws : List V), vs = .ref a :: ws ∧ ws.length ≤ 1000 ∧ OexC K C ∧ H1 a = some (exq a C none t0) ∧
  ∀ t1, H1 t1 = none → t1 ≠ a → Q .non (upd (upd H1 t1 (.tup ws)) a (exq a C none t1))
theorem pe_qinit {B : Addr} {x : Str} {pl : Sem Bool} (hg : Gl X x) (hm : X.mg x = some (.ref B)) (hr : PySem.W.readsIn X.K B (.type "type") = true) (hs : PySem.W.specialIn X.K (.ref B) "__getattribute__" = some (some (.builtin "type.__getattribute__")))
    (vV : PySem.W.findCls X.K (.ref B) (.type "type") "__init__" = some (.val (.builtin "ValueError.__init__"))) (ha : PA X (e :: es) ta) (hdb : (x == ("__debug__" : Str)) = false := by decide)
    (hc : eval (.Call (.Attribute (.Name x p1) "__init__" p2) (e :: es) [] pos) X.env = (do
      let ov ← eval (.Name x p1) X.env
      standAt p2.atName
      let (f, first) ← holding [ov] (getMethod ov "__init__" pl)
      callWith pos f first (backTo pos (starEach (e :: es) X.env)) (backToKw pos (keywordEach [] X.env))) := by rfl)
    (he : starEach (e :: es) X.env = (false, eval e X.env) :: starEach es X.env := by rfl) (hpl : (backTo pos (starEach es X.env)).any (·.1) = false := by rfl) :
    PE X (.Call (.Attribute (.Name x p1) "__init__" p2) (e :: es) [] pos) (tQinit ta X.K) := by
  refine ⟨fun pins s σ H Q I h => ?_⟩
  refine PySem.W.methodCall_KW (ld_glob I hg hm ?_ hdb) hc
  refine PySem.W.method_cls I.kIn hs ?_
  refine PySem.W.cls_value I.kIn hr vV (by decide +kernel) ?_
  show wpAny _ _ (callWith pos (Value.builtin "ValueError.__init__") [] (backTo pos (starEach (e :: es) X.env)) []) _ _ _
  refine PyProof.Rows.callWith_method1 (thn (ha.run pos pins _ σ H _ (I.tok _) h) fun us s1 ⟨vs, H1, I1, r1, a, C, t0, ws, ev, hl, T, ea, q⟩ => ?_) he hpl
  subst ev
  cases r1 with
  | @cons _ u0 _ ur ra rw' =>
    obtain rfl : u0 = Value.ref a := ra
    have hlen : ur.length ≤ sizeLine := by
      rw [← Paired.length rw', sizeLine_eq]
      omega
    exact qinit_ok T I1 ea rw' hlen fun t1 s' n ne J => ⟨.non, _, J, rfl, q t1 n ne⟩
/-- self.f = e -/
def tQst (K : PySem.W.Frag) (f : Str) (to te : TE) : TS := fun D σ H => te σ H fun y H1 => to σ H1 fun x H2 => ∃ a C t0 : Addr, x = .ref a ∧ OexC K C ∧ PySem.W.findIn K (.ref C) f = some none ∧
  ((H2 a = some (exq a C none t0) ∧ ∀ dx, H2 dx = none → dx ≠ a → D.nx σ (upd (upd H2 dx (exd dx [(f, y)])) a (exq a C (some dx) t0))) ∨
    ∃ (dx : Addr) (fs : List (Str × V)), H2 a = some (exq a C (some dx) t0) ∧ H2 dx = some (exd dx fs) ∧ fs.length ≤ 900 ∧ D.nx σ (upd H2 dx (exd dx ((f, y) :: fs))))
theorem ps_qst (ho : PE X o to) (he : PE X e te) (hs : swapsWith e (some (.Attribute o f p')) pos.line X.env = pure false := by rfl) : PS X (.Assign [.Attribute o f p'] e pos) (tQst X.K f to te) := by
  refine ⟨fun pins s σ H D I h => ?_⟩
  refine plainObj_wpAny_Assign_Attribute (thn (he.run pins s σ H _ I h) fun v s1 ⟨y, H1, I1, r1, q1⟩ => thn (ho.run pins s1 σ H1 _ I1 q1) fun u s2 ⟨x, H2, I2, r2, a, C, t0, ex, T, hno, q⟩ => ?_) hs
  subst ex
  obtain rfl : u = Value.ref a := r2
  rcases q with ⟨ea, q⟩ | ⟨dx, fs, ea, ed, hl, q⟩
  · exact qst_new T I2 ea hno r1 fun dx s' n ne J => ⟨σ, _, J, q dx n ne⟩
  · exact qst_old T I2 ea ed hl hno r1 fun s' J => ⟨σ, _, J, q⟩
/-- e.f of an exception that has its dict -/
def tQfld (K : PySem.W.Frag) (f : Str) (te : TE) : TE := fun σ H Q => te σ H fun x H1 => ∃ (a C d t0 : Addr) (fs : List (Str × V)) (v : V), x = .ref a ∧ ExQ K C ∧ PySem.W.findIn K (.ref C) f = some none ∧ H1 a = some (exq a C (some d) t0) ∧ H1 d = some (exd d fs) ∧ fs.lookup f = some v ∧ Q v H1
theorem pe_qfld (he : PE X e te) (hb : attributeBase e n X.env (eval e X.env) = eval e X.env := by rfl) : PE X (.Attribute e n pos) (tQfld X.K n te) := by
  refine ⟨fun pins s σ H Q I h => ?_⟩
  refine attr_of hb (thn (he.run pins s σ H _ I h) fun u s1 hh => ?_)
  obtain ⟨x, H1, I1, rx, a, C, d, t0, fs, v, ex, T, hno, ea, ed, l, q⟩ := hh
  subst ex
  obtain rfl : u = Value.ref a := rx
  have ha := exq_at I1.hok ea
  obtain ⟨mA, hns, hr⟩ := exd_at I1.hok ed
  obtain ⟨od, ho, hl⟩ := lookIn_ns hns
  obtain ⟨u, hu, ru⟩ := RelO.some_of (v := v) (o := mA n) (by rw [← l]; exact hr n)
  have J : PySem.W.InstAt s1.heap a { cls := .ref C, dict := some d, data := .fields #[.ref t0, .none, .none, .none, .bool false, .none] } C (some od) := ⟨ha, rfl, rfl, ho⟩
  exact HandSPX.exc_get I1.kIn J T.ga T.gg T.oex.exC (PySem.W.findObj_own T.hd hno rfl (by rw [hl, hu])) (handed_of ru) ⟨v, H1, I1.tok _, ru, q⟩
/-- isinstance(e, c), e an exception that stands in H -/
def rIsQ (K : PySem.W.Frag) : List V → Hp → VK → Prop := fun xs H Q => ∃ (a C t0 : Addr) (d : Option Addr) (c : V) (cv : Value) (b : Bool), xs = [.ref a, c] ∧ ExQ K C ∧ H a = some (exq a C d t0) ∧ (∀ dd, d = some dd → ∃ fs, H dd = some (exd dd fs)) ∧
  (∀ u, RelV c u → u = cv) ∧ PySem.W.kitOne K (.ref C) cv = some b ∧ Q (.bl b) H
theorem call_isQ : CallR X (.builtin "isinstance") (rIsQ X.K) := by
  intro pins s σ H xs us Q I r h
  obtain ⟨a, C, t0, d, c, cv, b, rfl, T, ea, ed, hcv, e, q⟩ := h
  cases r with
  | cons rx rr =>
    cases rr with
    | cons rt rr =>
      cases rr
      cases rx
      have ec := hcv _ rt
      subst ec
      have ha := exq_at I.hok ea
      have hcl : (PySem.W.clsIn X.K C).isSome = true := by
        obtain ⟨nm, q, N, bs, bm, sn, sub, ab, col, dd, k0, k1, k2, k3, k5, hC, hbm⟩ := T.oex.cls
        unfold PySem.W.clsIn
        rw [hC] <;> rfl
      cases d with
      | none =>
        have J : PySem.W.InstAt s.heap a { cls := .ref C, dict := none, data := .fields #[.ref t0, .none, .none, .none, .bool false, .none] } C none := ⟨ha, rfl, rfl, trivial⟩
        exact PySem.W.kia_one (PySem.W.kitx_exc hcl T.ga T.gg T.oex.exC T.cl T.cn T.ct T.cm) I.kIn J e (fun z => nomatch z) fun tk => ⟨.bl b, H, I.kept (t' := tk) fun _ _ z => z, rfl, q⟩
      | some dd =>
        obtain ⟨fs, ed⟩ := ed dd rfl
        obtain ⟨mA, hns, hr⟩ := exd_at I.hok ed
        obtain ⟨od, ho, hl⟩ := lookIn_ns hns
        have J : PySem.W.InstAt s.heap a { cls := .ref C, dict := some dd, data := .fields #[.ref t0, .none, .none, .none, .bool false, .none] } C (some od) := ⟨ha, rfl, rfl, ho⟩
        exact PySem.W.kia_one (PySem.W.kitx_exc hcl T.ga T.gg T.oex.exC T.cl T.cn T.ct T.cm) I.kIn J e (fun z => nomatch z) fun tk => ⟨.bl b, H, I.kept (t' := tk) fun _ _ z => z, rfl, q⟩
/-- C(e, ..), C's own __init__ keeping sp -/
def tMkQ (C : Addr) (sp : Sp) (ta : TA) : TE := fun σ H Q => ta σ H fun vs H1 => vs.length ≤ 1000 ∧ ∀ a t0, H1 a = none → sp (.ref a :: vs) (upd H1 a (exq a C none t0)) (fun v H2 => v = .non ∧ Q (.ref a) H2) E0
theorem pe_mkq {x : Str} {C fI : Addr} {k : Nat} {fd : FuncData} {ps : List Str} {sp : Sp} (T : OexC X.K C) (iC : PySem.W.findIn X.K (.ref C) "__init__" = some (some (.ref fI))) (tI : PySem.W.typeIn X.K (.ref fI) = some (.type "function"))
    (F1 : FnOk X.prog X.w X.K X.mg X.base CX0 k fI fd ps sp) (hr : Room (k + 1) X.A) (hb : Binds X.K fd ps []) (hg : Gl X x) (hm : X.mg x = some (.ref C)) (ha : PA X (e :: es) ta)
    (hdb : (x == ("__debug__" : Str)) = false := by decide) (he : starEach (e :: es) X.env = (false, eval e X.env) :: starEach es X.env := by rfl) (hpl : (backTo pos (starEach es X.env)).any (·.1) = false := by rfl) :
    PE X (.Call (.Name x p) (e :: es) [] pos) (tMkQ C sp ta) := by
  refine ⟨fun pins s σ H Q I h => ?_⟩
  obtain ⟨nm, q, N, bs, bm, sn, sub, ab, col, dd, k0, k1, k2, k3, k5, hC, hbm⟩ := T.cls
  refine wpAny_Call_Name_kw (ld_glob I hg hm ?_ hdb)
  refine PySem.W.callWith_K (h₀ := X.base) I.ok.mod.kin T.kC (thn (ha.run pos pins s σ H _ I h) fun us s1 ⟨vs, H1, I1, r1, hz, q1⟩ => ⟨I1.kIn, ?_⟩) he hpl
  show wpAny _ _ (call (.ref C) us) _ _ _
  obtain ⟨hp, g, dr, tk, os⟩ := s1
  have hsz : hp.objs.size ≤ hp.objs.size + 1 := Nat.le_succ _
  have hn : H1 (hp.objs.size + 1) = none := I1.hok.fresh hsz
  have hq := q1 (hp.objs.size + 1) hp.objs.size hn
  have kk : ∀ b o, hp.get? b = some o → ((hp.push (PySem.W.kdv_tup us)).push (PySem.HandSPX.excO C hp.objs.size)).get? b = some o := fun b o e => Heap.get?_push_of_some _ (Heap.get?_push_of_some _ e)
  have hget : ((hp.push (PySem.W.kdv_tup us)).push (PySem.HandSPX.excO C hp.objs.size)).get? (hp.objs.size + 1) = some (PySem.HandSPX.excO C hp.objs.size) := by heap_get
  have I2 : Inv X pins σ (upd H1 (hp.objs.size + 1) (exq (hp.objs.size + 1) C none hp.objs.size)) ⟨(hp.push (PySem.W.kdv_tup us)).push (PySem.HandSPX.excO C hp.objs.size), g, dr, tk, os⟩ :=
    I1.laid (t' := tk) (a := hp.objs.size + 1) (o := exq (hp.objs.size + 1) C none hp.objs.size) (h' := (hp.push (PySem.W.kdv_tup us)).push (PySem.HandSPX.excO C hp.objs.size)) kk hsz (exq_ok hget)
  have r2 : Vals (V.ref (hp.objs.size + 1) :: vs) (Value.ref (hp.objs.size + 1) :: us) := .cons rfl r1
  have hl : (Value.ref (hp.objs.size + 1) :: us).length = ps.length := by
    have e := r2.length
    rw [F1.len _ _ _ _ hq] at e
    exact e.symm
  have hus : us.length ≤ sizeLine := by
    rw [← Paired.length r1, sizeLine_eq]
    omega
  have hb2 := hb ⟨(hp.push (PySem.W.kdv_tup us)).push (PySem.HandSPX.excO C hp.objs.size), g, dr, tk, os⟩ (Value.ref (hp.objs.size + 1) :: us) I2.kIn (by rw [List.append_nil]; exact hl)
  rw [List.append_nil] at hb2
  refine wpAny_call (PySem.HandSPX.call_own F.excBase_ValueError (fun Y => PySem.HandSPX.refsVE_contains Y bm hbm) (I1.kIn _ _ hC) (PySem.W.looks_findIn I1.kIn iC) (fun self => PySem.W.bind_fn I1.kIn self tI) hus
    (codeAny_mono (F1.run _ X.stack _ _ ⟨Value.ref (hp.objs.size + 1) :: us, []⟩ (Value.ref (hp.objs.size + 1) :: us) _ _ E0 (hr.make C us []) (I2.env0.make C us []) hb2 r2 hq) fun r s' hq' => ?_))
  cases r with
  | error er => exact False.elim hq'
  | ok fl =>
    cases fl with
    | ret u =>
      obtain ⟨v, H', I3, rv, ev, q3⟩ := I2.after hq'
      subst ev
      exact ⟨rv, ⟨V.ref (hp.objs.size + 1), H', I3, rfl, q3⟩⟩
    | next => exact False.elim hq'
    | brk => exact False.elim hq'
    | cont => exact False.elim hq'
/-- C(), C without an __init__ of its own -/
def tMkQ0 (C : Addr) : TE := fun _ H Q => ∀ a t0, H a = none → Q (.ref a) (upd H a (exq a C none t0))
theorem pe_mkq0 {x : Str} {C : Addr} {bmB : List Value} {B newId initId : String} (F : ExcBaseFacts B newId initId bmB) (q : PySem.W.excIn X.K C bmB newId = true) (kC : PySem.W.keepIn X.K (.ref C) = true) (hg : Gl X x) (hm : X.mg x = some (.ref C))
    (hdb : (x == ("__debug__" : Str)) = false := by decide) : PE X (.Call (.Name x p) [] [] pos) (tMkQ0 C) := by
  refine ⟨fun pins s σ H Q I h => ?_⟩
  refine wpAny_Call_Name_kw (ld_glob I hg hm ?_ hdb)
  refine PySem.W.callWith_K0 I.kIn kC ?_
  show wpAny _ _ (call (.ref C) []) _ _ _
  obtain ⟨bm, N, nm, qn, bs, hdct, sn, sub, ab, col, dd, k0, k1, k2, k3, k5, mN, hC, hN, hni, T⟩ := exc_obj I.kIn q
  refine wpAny_call_exc_subT F T hC hN hni (fun h' a hm => ?_) (by show 0 ≤ sizeLine; exact Nat.zero_le _)
  have hn : H a = none := I.hok.gone hm.new
  obtain ⟨t, ht, _, _⟩ := hm.there
  exact ⟨.ref a, upd H a (exq a C none t), I.laidN hm.keeps hm.new hn (exq_ok ht), rfl, h a t hn⟩
end
end Gy

namespace PySem
namespace GyRX
open PySem.W PySem.Calls PyProof.Rows Builtin Builtin.Str Builtin.BaseException Builtin.Exceptions
/-- what an exception class of the program must say, so that its instances show themselves as BaseException does -/
structure ShowC (K : Frag) (C : Addr) (hd : Str) : Prop where
  nm : ∃ cd, clsIn K C = some cd ∧ Str.ofString ((cd.name.toString.cutAt '.').getLastD "") = hd
  rp : findIn K (.ref C) "__repr__" = some (some (.builtin "BaseException.__repr__"))
  ex : subIn K (.ref C) (.type "BaseException") = some true
section
variable {prog : Program} {w : World} {A : Around} {E : Value → Shared → Prop} {s : Shared} {K : Frag} {x C t0 : Addr} {ox : Obj} {od : Option Obj} {hd : Str}
theorem whole_name {M : Model} {Q : String → Shared → Prop} (T : ShowC K C hd) (X : K.In s.heap) (I : InstAt s.heap x ox C od) (hq : ∀ n, Str.ofString ((n.cutAt '.').getLastD "") = hd → Q n s) : wpAny M A (typeNameOfWhole (.ref x)) Q E s := by
  obtain ⟨cd, hcd, he⟩ := T.nm
  unfold typeNameOfWhole shownTypeOf
  refine wpAny_bind (wpAny_bind (I.type.here ?_))
  have e : (Value.ref C == Value.type "builtin_function_or_method") = false := rfl
  simp only [e, Bool.false_eq_true, if_false]
  refine wpAny_pure ?_
  show wpAny M A (do return (← classData C).name.toString) Q E s
  exact wpAny_bind ((looks_clsIn X hcd).here (wpAny_pure (hq _ he)))
theorem repr_at (b : Nat) (T : ShowC K C hd) (X : K.In s.heap) (I : InstAt s.heap x ox C od) {vs : Array Value} (hdat : ox.data = .fields vs) (h0 : vs[0]? = some (.ref t0)) {i : Int} {tk : Tok} (ht : s.heap.TupAt t0 [.int i tk]) (hi : i.natAbs.log2 < 1920) {Q : Fin → Shared → Prop}
    (hq : ∀ u tk', Q (.done (.ret (.str (hd ++ "(" ++ toString i ++ ")") u))) { s with toks := tk' }) (hsz : b + (hd ++ "(" ++ (toString i : Str) ++ ")").length ≤ sizeLine) :
    wpAny (model prog w) A (Builtin.bexcReprAt b ⟨[.ref x], []⟩) Q E s := by
  have e1 : b + (hd.length + 1 + (toString i : Str).length + 1) ≤ sizeLine := by
    have e1 := hsz
    rw [strLen_append, strLen_append, strLen_append] at e1
    have eP : (Str.ofString "(").length = 1 := by rw [ofString_length]; rfl
    have eP2 : (Str.ofString ")").length = 1 := by rw [ofString_length]; rfl
    rw [eP, eP2] at e1
    exact e1
  unfold Builtin.bexcReprAt
  refine wpAny_bind (wpAny_of_eq (a := ((Value.ref x : Value), ([] : List Value))) (by first | rfl | (simp only [slotArgs]; rfl)) ?_)
  refine wpAny_bind (whole_name T X I fun n hn => ?_)
  obtain ⟨ot, k, hto, _, htd⟩ := id ht
  refine wpAny_bind (m := bexcArgs (.ref x)) ?_
  unfold bexcArgs
  refine wpAny_bind (wpAny_field I.1 hdat h0 (wpAny_bind (wpAny_seqItems hto htd (wpAny_pure ?_))))
  simp only [hn]
  refine wpAny_bind (wpAny_rule (wpAny_bind (ReprIs.int tk hi _ (by omega) _ _ _ _ fun tk2 => ?_)))
  have hz : (hd ++ "(" ++ (toString i : Str) ++ ")").length ≤ sizeLine := Nat.le_trans (Nat.le_add_left _ _) hsz
  exact wpAny_bind (wpAny_mkStr (wpAny_pure (hq _ _)) hz)
theorem ifBound {last : Value → List Value → Sem Value} {Q : Option Value → Shared → Prop} (T : ShowC K C hd) (X : K.In s.heap) (I : InstAt s.heap x ox C od)
    (hc : wpAny (model prog w) A (last (.builtin "BaseException.__repr__") [.ref x]) (fun v => Q (some v)) E s) : wpAny (model prog w) A (callSpecialIfBoundBy? last (.ref x) "__repr__") Q E s := by
  simp only [callSpecialIfBoundBy?, bindSpecialIfBound?]
  refine wpAny_holding (wpAny_bind (wpAny_bind (wpAny_bind (I.type.here ((looks_findIn X T.rp).here ?_)))))
  simp only [F.excStr_ValueError.repr.bind]
  refine wpAny_bind (wpAny_askSetting (wpAny_ite ?_))
  have fin : wpAny (model prog w) A (last (.builtin "BaseException.__repr__") [.ref x] >>= fun v => pure (some v)) Q E s :=
    wpAny_bind (wpAny_mono hc (fun v s' h' => wpAny_pure h') fun _ _ h' => h')
  split
  · exact wpAny_bind (wpAny_pure (wpAny_pure fin))
  · exact wpAny_tryCatch (wpAny_bind (wpAny_pure (wpAny_pure fin)))
theorem special {Q : Option Value → Shared → Prop} (T : ShowC K C hd) (X : K.In s.heap) (I : InstAt s.heap x ox C od) (h : Q (some (.builtin "BaseException.__repr__")) s) : wpAny (model prog w) A (specialOf (.ref x) "__repr__") Q E s := by
  unfold specialOf
  exact wpAny_bind (I.type.here ((looks_findIn X T.rp).here h))
theorem check (T : ShowC K C hd) (X : K.In s.heap) (I : InstAt s.heap x ox C od) {Q : Unit → Shared → Prop} (q : Q () s) : wpAny (model prog w) A (checkBuiltinCall "BaseException.__repr__" ⟨[.ref x], []⟩) Q E s :=
  @PySem.W.check_slot (model prog w) _ _ s "BaseException.__repr__" "BaseException" "__repr__" (.ref x) [] [] _ (by decide +kernel) (by decide +kernel) (I.type.andThen (looks_subIn X T.ex)) (F.args_bexc_repr (.ref x)) q
/-- repr(e) -/
theorem call_repr (T : ShowC K C hd) (X : K.In s.heap) (I : InstAt s.heap x ox C od) {vs : Array Value} (hdat : ox.data = .fields vs) (h0 : vs[0]? = some (.ref t0)) {i : Int} {tk : Tok} (ht : s.heap.TupAt t0 [.int i tk]) (hi : i.natAbs.log2 < 1920) (hu : A.units + 1 < cLine) {Q : Value → Shared → Prop}
    (hq : ∀ u tk', Q (.str (hd ++ "(" ++ toString i ++ ")") u) { s with toks := tk' }) (hsz : (hd ++ "(" ++ (toString i : Str) ++ ")").length ≤ sizeLine) :
    wpAny (model prog w) A (call (.builtin "repr") [.ref x]) Q E s := by
  refine Calls.call_function_entry F.kind_repr F.plain_repr F.entry_repr (F.args_repr1 _) ?_
  unfold Builtin.«repr»
  refine wpAny_bind (m := oneArg "repr" _) (wpAny_pure ?_)
  refine wpAny_bind (wpAny_cRoomFor (show A.in1.units < cLine from hu) ?_)
  refine wpAny_bind (special T X I ?_)
  refine wpAny_bind (m := callSpecialIfBound? (.ref x) (Str.ofString "__repr__")) ?_
  refine ifBound (last := fun g first => call g (first ++ [])) T X I ?_
  refine wpAny_call (codeAny_call_builtin F.excStr_ValueError.repr.plain F.entry_bexc_repr (check T X I ?_))
  show wpAny _ _ (Builtin.bexcReprAt 0 ⟨[.ref x], []⟩) _ _ _
  refine repr_at 0 T X I hdat h0 ht hi (fun u tk' => ?_) (by rw [Nat.zero_add]; exact hsz)
  refine wpAny_bind (wpAny_isInstance (T := "str") (b := true) rfl isSubtype_str_str ?_)
  exact wpAny_pure ⟨_, rfl, hq u tk'⟩
/-- .. within a list -/
theorem reprK (T : ShowC K C hd) {h₀ : Heap} (X : K.In h₀) (I : InstAt h₀ x ox C od) {vs : Array Value} (hdat : ox.data = .fields vs) (h0 : vs[0]? = some (.ref t0)) {i : Int} {tk : Tok} (ht : h₀.TupAt t0 [.int i tk]) (hi : i.natAbs.log2 < 1920) :
    ReprK prog w [] h₀ 1 (.ref x) (hd ++ "(" ++ toString i ++ ")") := by
  intro base hb A g E s Q hg hcl hu hk0 hQ
  have X' := X.keeps hk0
  have I' : InstAt s.heap x ox C od := ⟨hk0 _ _ I.at_, I.cls, I.no, by
    have z := I.dict
    revert z
    cases ox.dict with
    | none => cases od <;> exact id
    | some dd =>
      cases od with
      | none => exact id
      | some oo => exact fun z => hk0 _ _ z⟩
  have ht' : s.heap.TupAt t0 [.int i tk] := by
    obtain ⟨ot, k, a, b, c⟩ := ht
    exact ⟨ot, k, hk0 _ _ a, b, c⟩
  refine wpAny_pyReprUnder_ref (by omega) ?_
  unfold pyReprObjUnder pyReprObjBy
  refine wpAny_bind (wpAny_cRoomFor (by omega) ?_)
  refine wpAny_bind (special T X' I' ?_)
  refine wpAny_bind (ifBound T X' I' ?_)
  show wpAny _ _ (call (.builtin "BaseException.__repr__.under") [.ref x, rawInt base]) _ _ _
  refine wpAny_call (codeAny_call_builtin F.plain_bexc_repr_under F.entry_bexc_repr_under ?_)
  rw [F.check_bexc_repr_under]
  refine wpAny_pure ?_
  show wpAny _ _ (reprTwin "BaseException.__repr__" Builtin.bexcReprAt ⟨[.ref x, rawInt base], []⟩) _ _ _
  rw [reprTwin_eq]
  refine wpAny_bind (check T X' I' ?_)
  refine repr_at base T X' I' hdat h0 ht' hi (fun u tk' => ?_) hb
  refine wpAny_bind (wpAny_isInstance (T := "str") (b := true) rfl isSubtype_str_str (wpAny_pure ?_))
  exact ⟨_, _, rfl, hQ s.heap tk' fun _ _ e => e⟩
end
end GyRX
end PySem

namespace Gy
open PySem L2 PySem.Spec PyProof.Rows
open PySem.GyRX (ShowC)
/-- data, as it is shown: what flat things, lists, tuples, dicts with text keys and exceptions of one int are -/
inductive D where
  | non | bl (b : Bool) | int (i : Int) | str (x : Str) | lst (ds : List D) | tup (ds : List D) | dic (ks : List Str) (ds : List D) | exc (hd : Str) (i : Int)
mutual
def D.shown : D → Str
  | .non => "None"
  | .bl b => if b then ("True" : Str) else ("False" : Str)
  | .int i => (toString i : Str)
  | .str x => reprText x
  | .lst ds => listText (D.shownAll ds)
  | .tup ds => tupleText (D.shownAll ds)
  | .dic ks ds => dictText (List.zipWith (fun k v : Str => k ++ ": " ++ v) (ks.map reprText) (D.shownAll ds))
  | .exc hd i => hd ++ "(" ++ (toString i : Str) ++ ")"
def D.shownAll : List D → List Str
  | [] => []
  | d :: ds => D.shown d :: D.shownAll ds
end
mutual
def D.depth : D → Nat
  | .non => 0 | .bl _ => 0 | .int _ => 0 | .str _ => 0
  | .lst ds => D.depthAll ds + 1
  | .tup ds => D.depthAll ds + 1
  | .dic _ ds => D.depthAll ds + 1
  | .exc _ _ => 1
def D.depthAll : List D → Nat
  | [] => 0
  | d :: ds => max (D.depth d) (D.depthAll ds)
end
mutual
def D.ok : D → Bool
  | .non => true | .bl _ => true | .str _ => true
  | .int i => decide (i.natAbs.log2 < 1920)
  | .lst ds => D.okAll ds
  | .tup ds => D.okAll ds
  | .dic ks ds => (ks.length == ds.length) && D.okAll ds
  | .exc _ i => decide (i.natAbs.log2 < 1920)
def D.okAll : List D → Bool
  | [] => true
  | d :: ds => D.ok d && D.okAll ds
end
mutual
inductive Rp (K : PySem.W.Frag) (H : Hp) : V → D → Prop
  | non : Rp K H .non .non
  | bl (b : Bool) : Rp K H (.bl b) (.bl b)
  | int (i : Int) : Rp K H (.int i) (.int i)
  | str (x : Str) : Rp K H (.str x) (.str x)
  | lst {a : Addr} {xs : List V} {ds : List D} : H a = some (.lst xs) → RpAll K H xs ds → Rp K H (.ref a) (.lst ds)
  | tup {a : Addr} {xs : List V} {ds : List D} : H a = some (.tup xs) → RpAll K H xs ds → Rp K H (.ref a) (.tup ds)
  | dic {a : Addr} {ks : List Str} {xs : List V} {ds : List D} : H a = some (.dK (List.zipWith (fun k v => (Sum.inr k, v)) ks xs)) → ks.length = xs.length → RpAll K H xs ds → Rp K H (.ref a) (.dic ks ds)
  | exc {a C t0 : Addr} {d : Option Addr} {hd : Str} {i : Int} : H a = some (exq a C d t0) → (∀ dd, d = some dd → ∃ fs, H dd = some (exd dd fs)) → H t0 = some (.tup [.int i]) → ShowC K C hd → PySem.W.mroIn K C (.type "object") = some true →
      PySem.W.findIn K (.ref C) "__eq__" = some (some (.builtin "object.__eq__")) → Rp K H (.ref a) (.exc hd i)
inductive RpAll (K : PySem.W.Frag) (H : Hp) : List V → List D → Prop
  | nil : RpAll K H [] []
  | cons {v : V} {vs : List V} {d : D} {ds : List D} : Rp K H v d → RpAll K H vs ds → RpAll K H (v :: vs) (d :: ds)
end
theorem RpAll.len {K : PySem.W.Frag} {H : Hp} : ∀ {xs : List V} {ds : List D}, RpAll K H xs ds → xs.length = ds.length
  | _, _, .nil => rfl
  | _, _, .cons _ h => by simp [h.len]
/-! ### an address stands for one datum alone -/
theorem exq_inj {a C C' t t' : Addr} {d d' : Option Addr} {H : Hp} {P : Program} {w : World} {h : Heap} (hok : HOk P w H h) (e : H a = some (exq a C d t)) (e' : H a = some (exq a C' d' t')) : C = C' ∧ d = d' ∧ t = t' := by
  have q := (exq_at hok e).symm.trans (exq_at hok e')
  injection q with q
  injection q with q1 q2 q3 q4
  injection q1 with q1
  injection q3 with q3
  have q5 : ([Value.ref t, Value.none, Value.none, Value.none, Value.bool false, Value.none] : List Value) = [Value.ref t', Value.none, Value.none, Value.none, Value.bool false, Value.none] := congrArg Array.toList q3
  injection q5 with q6 _
  injection q6 with q6
  exact ⟨q1, q2, q6⟩
theorem zip_keys {ks ls : List Str} {xs ys : List V} (h1 : ks.length = xs.length) (h2 : ls.length = ys.length) (e : List.zipWith (fun k v => ((Sum.inr k : Key), v)) ks xs = List.zipWith (fun k v => (Sum.inr k, v)) ls ys) : ks = ls ∧ xs = ys := by
  induction ks generalizing ls xs ys with
  | nil =>
    cases xs with
    | nil =>
      cases ls with
      | nil => cases ys with
        | nil => exact ⟨rfl, rfl⟩
        | cons _ _ => simp at h2
      | cons _ _ => cases ys with
        | nil => simp at h2
        | cons _ _ => simp at e
    | cons _ _ => simp at h1
  | cons k ks ih =>
    cases xs with
    | nil => simp at h1
    | cons x xs =>
      cases ls with
      | nil => simp at e
      | cons l ls =>
        cases ys with
        | nil => simp at h2
        | cons y ys =>
          simp only [List.zipWith_cons_cons, List.cons.injEq, Prod.mk.injEq, Sum.inr.injEq] at e
          obtain ⟨⟨e1, e2⟩, e3⟩ := e
          obtain ⟨h3, h4⟩ := ih (by simpa using h1) (by simpa using h2) e3
          exact ⟨by rw [e1, h3], by rw [e2, h4]⟩
section
variable {K : PySem.W.Frag} {H : Hp} {P : Program} {w : World} {h : Heap} (hok : HOk P w H h)
include hok
mutual
theorem Rp.fn : ∀ {v : V} {d d' : D}, Rp K H v d → Rp K H v d' → d = d'
  | _, _, _, .non, q => by cases q; rfl
  | _, _, _, .bl b, q => by cases q; rfl
  | _, _, _, .int i, q => by cases q; rfl
  | _, _, _, .str x, q => by cases q; rfl
  | _, _, _, .lst e r, q => by
    cases q with
    | lst e' r' =>
      rw [e] at e'
      cases e'
      rw [RpAll.fn r r']
    | tup e' _ => rw [e] at e'; cases e'
    | dic e' _ _ => rw [e] at e'; cases e'
    | exc e' _ _ _ _ _ => rw [e] at e'; exact absurd (Option.some.inj e').symm exq_lst
  | _, _, _, .tup e r, q => by
    cases q with
    | lst e' r' => rw [e] at e'; cases e'
    | tup e' r' =>
      rw [e] at e'
      cases e'
      rw [RpAll.fn r r']
    | dic e' _ _ => rw [e] at e'; cases e'
    | exc e' _ _ _ _ _ => rw [e] at e'; exact absurd (Option.some.inj e').symm exq_tup
  | _, _, _, .dic e l r, q => by
    cases q with
    | lst e' r' => rw [e] at e'; cases e'
    | tup e' r' => rw [e] at e'; cases e'
    | dic e' l' r' =>
      rw [e] at e'
      injection e' with e'
      injection e' with e'
      obtain ⟨h1, h2⟩ := zip_keys l l' e'
      subst h1
      subst h2
      rw [RpAll.fn r r']
    | exc e' _ _ _ _ _ => rw [e] at e'; exact absurd (Option.some.inj e').symm exq_dK
  | _, _, _, .exc e _ e2 s _ _, q => by
    cases q with
    | lst e' r' => rw [e] at e'; exact absurd (Option.some.inj e') exq_lst
    | tup e' r' => rw [e] at e'; exact absurd (Option.some.inj e') exq_tup
    | dic e' _ _ => rw [e] at e'; exact absurd (Option.some.inj e') exq_dK
    | exc e' _ e2' s' _ _ =>
      obtain ⟨h1, _, h3⟩ := exq_inj hok e e'
      subst h1
      subst h3
      rw [e2] at e2'
      cases e2'
      obtain ⟨cd, h4, h5⟩ := s.nm
      obtain ⟨cd', h4', h5'⟩ := s'.nm
      rw [h4] at h4'
      cases h4'
      rw [← h5, ← h5']
theorem RpAll.fn : ∀ {vs : List V} {ds ds' : List D}, RpAll K H vs ds → RpAll K H vs ds' → ds = ds'
  | _, _, _, .nil, q => by cases q; rfl
  | _, _, _, .cons r rs, q => by
    cases q with
    | cons r' rs' => rw [Rp.fn r r', RpAll.fn rs rs']
end
end
end Gy

namespace Gy
open PySem L2 PySem.Spec PyProof.Rows
open PySem.GyRX (ShowC)
theorem zip_len : ∀ {ks vs : List Str}, ks.length = vs.length → (∀ k ∈ ks, ∃ p ∈ List.zipWith (fun k v : Str => k ++ ": " ++ v) ks vs, k.length ≤ p.length) ∧ (∀ v ∈ vs, ∃ p ∈ List.zipWith (fun k v : Str => k ++ ": " ++ v) ks vs, v.length ≤ p.length)
  | [], [], _ => ⟨(fun _ h => nomatch h), fun _ h => nomatch h⟩
  | [], _ :: _, h => by simp at h
  | _ :: _, [], h => by simp at h
  | k :: ks, v :: vs, h => by
    obtain ⟨h1, h2⟩ := zip_len (ks := ks) (vs := vs) (by simpa using h)
    refine ⟨fun z hz => ?_, fun z hz => ?_⟩
    · rcases List.mem_cons.mp hz with e | hz
      · exact ⟨_, List.mem_cons_self, by rw [e, strLen_append, strLen_append]; omega⟩
      · obtain ⟨p, hp, q⟩ := h1 z hz
        exact ⟨p, List.mem_cons_of_mem _ hp, q⟩
    · rcases List.mem_cons.mp hz with e | hz
      · exact ⟨_, List.mem_cons_self, by rw [e, strLen_append]; omega⟩
      · obtain ⟨p, hp, q⟩ := h2 z hz
        exact ⟨p, List.mem_cons_of_mem _ hp, q⟩
theorem shownAll_len : ∀ ds : List D, (D.shownAll ds).length = ds.length
  | [] => rfl
  | _ :: ds => by simp [D.shownAll, shownAll_len ds]
/-- the addresses that a datum hangs on -/
def AtMost (K : PySem.W.Frag) (H : Hp) (n : Nat) (bs : List Addr) : Prop := ∀ b ∈ bs, ∃ d, Rp K H (.ref b) d ∧ d.depth ≤ n
theorem AtMost.not {K : PySem.W.Frag} {H : Hp} {P : Program} {w : World} {h : Heap} (hok : HOk P w H h) {a : Addr} {d : D} {n : Nat} {bs : List Addr} (r : Rp K H (.ref a) d) (hd : n < d.depth) (hb : AtMost K H n bs) : a ∉ bs := fun hm => by
  obtain ⟨d', r', hn⟩ := hb a hm
  have e := Rp.fn hok r r'
  rw [e] at hd
  omega
theorem AtMost.mono {K : PySem.W.Frag} {H : Hp} {n m : Nat} {bs : List Addr} (h : AtMost K H n bs) (hn : n ≤ m) : AtMost K H m bs := fun b hb =>
  let ⟨d, r, e⟩ := h b hb
  ⟨d, r, Nat.le_trans e hn⟩
theorem AtMost.append {K : PySem.W.Frag} {H : Hp} {n : Nat} {bs cs : List Addr} (h1 : AtMost K H n bs) (h2 : AtMost K H n cs) : AtMost K H n (bs ++ cs) := fun b hb =>
  (List.mem_append.mp hb).elim (h1 b) (h2 b)
theorem AtMost.cons {K : PySem.W.Frag} {H : Hp} {a : Addr} {d : D} {n : Nat} {bs : List Addr} (r : Rp K H (.ref a) d) (hn : n ≤ d.depth) (hb : AtMost K H n bs) : AtMost K H d.depth (a :: bs) := fun b hm => by
  rcases List.mem_cons.mp hm with e | hm
  · rw [e]
    exact ⟨d, r, Nat.le_refl _⟩
  · exact hb.mono hn b hm
theorem keys_repr {P : Program} {w : World} {bs : List Addr} {h : Heap} {n : Nat} : ∀ {ks : List Str} {xs : List V} {kvs : List (Key × Value)} {es : List DictEntry}, KV (List.zipWith (fun k v => ((Sum.inr k : Key), v)) ks xs) kvs → Pairs (mixKind P w) es kvs → ks.length = xs.length →
    (∀ k ∈ ks, (reprText k).length ≤ sizeLine) → ReprAllK P w bs h n (es.map (·.key)) (ks.map reprText) ∧ Vals xs (es.map (·.val))
  | [], [], _, _, r, q, _, _ => by
    cases r
    cases q
    exact ⟨.nil, .nil⟩
  | [], _ :: _, _, _, _, _, h, _ => by simp at h
  | _ :: _, [], _, _, _, _, h, _ => by simp at h
  | k :: ks, x :: xs, _, _, r, q, hl, hz => by
    cases r with
    | cons r1 r2 =>
      cases q with
      | cons q1 q2 q3 =>
        obtain ⟨e1, e2⟩ := r1
        obtain ⟨h1, h2⟩ := keys_repr (bs := bs) (h := h) (n := n) (ks := ks) (xs := xs) r2 q3 (by simpa using hl) fun k hk => hz k (List.mem_cons_of_mem _ hk)
        rename_i kv kvs e es
        have q1' : keyIs kv.1 e.key = true := q1
        rw [← e1] at q1'
        rcases keyIs_shape q1' with ⟨i, t, z1, _⟩ | ⟨y, t, z1, z2⟩
        · cases z1
        · injection z1 with z1
          subst z1
          refine ⟨?_, .cons (by show L2.RelV x e.val; rw [q2]; exact e2) h2⟩
          refine .cons ?_ h1
          show ReprK P w bs h n e.key (reprText k)
          rw [z2]
          exact .of_is (ReprIs.str _ t (hz _ List.mem_cons_self)) _ _ _
section
variable {X : Cx} {pins : List (Addr × Obj)} {σ : L2.St} {H : Hp} {s : Shared}
theorem exc_inst {a C t0 : Addr} {d : Option Addr} (I : Inv X pins σ H s) (e : H a = some (exq a C d t0)) (e2 : ∀ dd, d = some dd → ∃ fs, H dd = some (exd dd fs)) :
    ∃ od, PySem.W.InstAt s.heap a { cls := .ref C, dict := d, data := .fields #[.ref t0, .none, .none, .none, .bool false, .none] } C od := by
  have ha := exq_at I.hok e
  cases d with
  | none => exact ⟨none, ha, rfl, rfl, trivial⟩
  | some dd =>
    obtain ⟨fs, ed⟩ := e2 dd rfl
    obtain ⟨mA, hns, hr⟩ := exd_at I.hok ed
    obtain ⟨od, ho, hl⟩ := lookIn_ns hns
    exact ⟨some od, ha, rfl, rfl, ho⟩
theorem int_tup {t0 : Addr} {i : Int} (I : Inv X pins σ H s) (e : H t0 = some (.tup [.int i])) : ∃ tk, s.heap.TupAt t0 [.int i tk] := by
  obtain ⟨_, its, r, o, h1, h2, n, h3⟩ := (show ObjOk X.prog X.w H s.heap t0 (.tup [.int i]) from I.hok t0 _ e)
  cases r with
  | cons r1 r2 =>
    cases r2
    obtain ⟨t, rfl⟩ := r1
    exact ⟨t, o, n, h1, h2, h3⟩
mutual
theorem Rp.reprK (I : Inv X pins σ H s) : ∀ {v : V} {d : D} {u : Value}, Rp X.K H v d → RelV v u → d.ok = true → d.shown.length ≤ sizeLine → ∃ bs, AtMost X.K H d.depth bs ∧ ReprK X.prog X.w bs s.heap d.depth u d.shown
  | _, _, _, .non, r, _, _ => by
    cases r
    exact ⟨[], (fun _ h => nomatch h), by simp only [D.shown]; exact .of_is ReprIs.none _ _ _⟩
  | _, _, _, .bl b, r, _, _ => by
    cases r
    exact ⟨[], (fun _ h => nomatch h), by simp only [D.shown]; exact .of_is (ReprIs.bool b) _ _ _⟩
  | _, _, _, .int i, r, ho, _ => by
    obtain ⟨t, rfl⟩ := r
    exact ⟨[], (fun _ h => nomatch h), by simp only [D.shown]; exact .of_is (ReprIs.int t (by simpa [D.ok] using ho)) _ _ _⟩
  | _, _, _, .str x, r, _, hz => by
    obtain ⟨t, rfl⟩ := r
    exact ⟨[], (fun _ h => nomatch h), by simp only [D.shown]; exact .of_is (ReprIs.str x t (by simpa only [D.shown] using hz)) _ _ _⟩
  | _, _, _, .lst (a := a) (xs := xs) (ds := ds) e ha, r, ho, hz => by
    cases r
    have hz' : (listText (D.shownAll ds)).length ≤ sizeLine := by simpa only [D.shown] using hz
    obtain ⟨_, its, n, rv, hg⟩ := (show ObjOk X.prog X.w H s.heap a (.lst xs) from I.hok a _ e)
    obtain ⟨bs, hb, hk⟩ := RpAll.reprK I ha rv (by simpa [D.ok] using ho) (fun t ht => Nat.le_trans (listText_mem_le ht) hz')
    have R : Rp X.K H (.ref a) (.lst ds) := .lst e ha
    have hna : a ∉ bs := AtMost.not I.hok R (by simp only [D.depth]; omega) hb
    refine ⟨a :: bs, AtMost.cons R (by simp only [D.depth]; omega) hb, ?_⟩
    simp only [D.depth, D.shown]
    cases its with
    | nil =>
      cases rv
      cases ha
      simp only [D.shownAll, listText_nil]
      exact ReprK.listEmpty hg rfl rfl
    | cons x l => exact ReprK.list hg rfl rfl hna (by simpa using hk.length_eq) (fun i y e => hk.item i y (by simpa using e))
  | _, _, _, .tup (a := a) (xs := xs) (ds := ds) e ha, r, ho, hz => by
    cases r
    have hz' : (tupleText (D.shownAll ds)).length ≤ sizeLine := by simpa only [D.shown] using hz
    obtain ⟨_, its, rv, o, hg, hc, n, hd⟩ := (show ObjOk X.prog X.w H s.heap a (.tup xs) from I.hok a _ e)
    obtain ⟨bs, hb, hk⟩ := RpAll.reprK I ha rv (by simpa [D.ok] using ho) (fun t ht => Nat.le_trans (tupleText_mem_le ht) hz')
    have R : Rp X.K H (.ref a) (.tup ds) := .tup e ha
    have hna : a ∉ bs := AtMost.not I.hok R (by simp only [D.depth]; omega) hb
    refine ⟨a :: bs, AtMost.cons R (by simp only [D.depth]; omega) hb, ?_⟩
    simp only [D.depth, D.shown]
    exact ReprK.tuple hg hc hd hna hk
  | _, _, _, .dic (a := a) (ks := ks) (xs := xs) (ds := ds) e hl ha, r, ho, hz => by
    cases r
    have hz' : (dictText (List.zipWith (fun k v : Str => k ++ ": " ++ v) (ks.map reprText) (D.shownAll ds))).length ≤ sizeLine := by simpa only [D.shown] using hz
    obtain ⟨_, ya, va, ra, o, es, ep, hg, hx, hdat, _, hp, _⟩ := (show ObjOk X.prog X.w H s.heap a (.dK (List.zipWith (fun k v => (Sum.inr k, v)) ks xs)) from I.hok a _ e)
    have hlen : (ks.map reprText).length = (D.shownAll ds).length := by rw [List.length_map, shownAll_len, hl]; exact ha.len
    obtain ⟨z1, z2⟩ := zip_len hlen
    have ho' : D.okAll ds = true := by
      simp only [D.ok, Bool.and_eq_true] at ho
      exact ho.2
    obtain ⟨k1, rv⟩ := keys_repr (P := X.prog) (w := X.w) (bs := ([] : List Addr)) (h := s.heap) (n := D.depthAll ds) ra hp hl (fun k hk => by
      obtain ⟨p, hp, hq⟩ := z1 (reprText k) (List.mem_map_of_mem hk)
      exact Nat.le_trans hq (Nat.le_trans (dictText_mem_le hp) hz'))
    obtain ⟨bs, hb, k2⟩ := RpAll.reprK I ha rv ho' (fun t ht => by
      obtain ⟨p, hp, hq⟩ := z2 t ht
      exact Nat.le_trans hq (Nat.le_trans (dictText_mem_le hp) hz'))
    have R : Rp X.K H (.ref a) (.dic ks ds) := .dic e hl ha
    have hna : a ∉ bs := AtMost.not I.hok R (by simp only [D.depth]; omega) hb
    refine ⟨a :: bs, AtMost.cons R (by simp only [D.depth]; omega) hb, ?_⟩
    simp only [D.depth, D.shown]
    exact ReprK.dict hg hx.1 hdat ya hna (ReprEntriesK.of_two es.toList _ _ (k1.more_le (fun b hb => absurd hb List.not_mem_nil) (Nat.le_refl _)) k2)
  | _, _, _, .exc (a := a) e e2 e3 T _ _, r, ho, hz => by
    cases r
    obtain ⟨od, J⟩ := exc_inst I e e2
    obtain ⟨tk, ht⟩ := int_tup I e3
    exact ⟨[], (fun _ h => nomatch h), by simp only [D.depth, D.shown]; exact PySem.GyRX.reprK T I.kIn J rfl rfl ht (by simpa [D.ok] using ho)⟩
theorem RpAll.reprK (I : Inv X pins σ H s) : ∀ {vs : List V} {ds : List D} {us : List Value}, RpAll X.K H vs ds → Vals vs us → D.okAll ds = true → (∀ t ∈ D.shownAll ds, t.length ≤ sizeLine) → ∃ bs, AtMost X.K H (D.depthAll ds) bs ∧ ReprAllK X.prog X.w bs s.heap (D.depthAll ds) us (D.shownAll ds)
  | _, _, _, .nil, r, _, _ => by
    cases r
    exact ⟨[], (fun _ h => nomatch h), by simp only [D.shownAll]; exact .nil⟩
  | _, _, _, .cons (d := d) (ds := ds) h hs, r, ho, hz => by
    cases r with
    | cons r1 r2 =>
      have ho' : d.ok = true ∧ D.okAll ds = true := by simpa [D.okAll] using ho
      obtain ⟨b1, hb1, k1⟩ := Rp.reprK I h r1 ho'.1 (hz _ (by simp only [D.shownAll]; exact List.mem_cons_self ..))
      obtain ⟨b2, hb2, k2⟩ := RpAll.reprK I hs r2 ho'.2 (fun t ht => hz t (by simp only [D.shownAll]; exact List.mem_cons_of_mem _ ht))
      refine ⟨b1 ++ b2, ?_, ?_⟩
      · simp only [D.depthAll]
        exact (hb1.mono (Nat.le_max_left _ _)).append (hb2.mono (Nat.le_max_right _ _))
      · simp only [D.depthAll, D.shownAll]
        exact .cons ((k1.more fun b hb => List.mem_append_left _ hb).level_le (Nat.le_max_left _ _)) (k2.more_le (fun b hb => List.mem_append_right _ hb) (Nat.le_max_right _ _))
end
end
end Gy

namespace Gy
open PySem L2 PySem.Spec PyProof.Rows
open PySem.GyRX (ShowC)
section
variable {X : Cx}
/-- repr(x) of data that may be shown -/
def rRepr (K : PySem.W.Frag) : List V → Hp → VK → Prop := fun xs H Q => ∃ x d, xs = [x] ∧ Rp K H x d ∧ d.ok = true ∧ d.shown.length ≤ sizeLine ∧ d.depth ≤ 40 ∧ Q (.str d.shown) H
theorem call_reprD (hg : X.A.guards = some []) (hu : X.A.units + 64 < cLine) : CallR X (.builtin "repr") (rRepr X.K) := by
  intro pins s σ H xs us Q I r h
  obtain ⟨x, d, rfl, hr, ho, hz, hd, q⟩ := h
  obtain ⟨u, rfl, ru⟩ := vals1 r
  have fin : ∀ h' u tk, (∀ b o, s.heap.get? b = some o → h'.get? b = some o) → EP X pins σ Q (.str d.shown u) { s with heap := h', toks := tk } := fun h' u tk hk => ⟨.str d.shown, H, I.kept (t' := tk) hk, ⟨u, rfl⟩, q⟩
  have hg1 : X.A.in1.guards = some [] := hg
  cases hr with
  | non =>
    cases ru
    exact PySem.P.repr_of_none (fin s.heap _ _ fun _ _ e => e)
  | bl b =>
    cases ru
    exact PySem.P.repr_of_bool (fin s.heap _ _ fun _ _ e => e)
  | int i =>
    obtain ⟨t, rfl⟩ := ru
    exact PySem.P.repr_of_int (by simpa [D.ok] using ho) (fin s.heap _ _ fun _ _ e => e)
  | str x =>
    obtain ⟨t, rfl⟩ := ru
    exact PySem.P.repr_of_str (fin s.heap _ _ fun _ _ e => e) (by simpa only [D.shown] using hz)
  | @lst a xs ds e ha =>
    cases ru
    have hz' : (listText (D.shownAll ds)).length ≤ sizeLine := by simpa only [D.shown] using hz
    obtain ⟨_, its, n, rv, hgt⟩ := (show ObjOk X.prog X.w H s.heap a (.lst xs) from I.hok a _ e)
    obtain ⟨bs, hb, hk⟩ := RpAll.reprK I ha rv (by simpa [D.ok] using ho) (fun t ht => Nat.le_trans (listText_mem_le ht) hz')
    have R : Rp X.K H (.ref a) (.lst ds) := .lst e ha
    have hna : a ∉ bs := AtMost.not I.hok R (by simp only [D.depth]; omega) hb
    simp only [D.depth] at hd
    refine call_repr_slot (by omega) ⟨_, hgt, rfl⟩ F.slot_list_repr.toG ?_
    simp only [D.shown] at fin
    cases its with
    | nil =>
      cases rv
      cases ha
      simp only [D.shownAll, listText_nil] at fin
      exact call_list_repr_empty ⟨_, hgt, rfl⟩ hgt rfl ⟨_, _, rfl, fin s.heap _ _ fun _ _ e => e⟩
    | cons x l => exact call_list_reprK hgt rfl rfl hna (by simpa using hk.length_eq) (fun i y e => hk.item i y (by simpa using e)) hg1 (fun b _ => Clear.nil b) (by show X.A.units + 1 + _ < cLine; omega) (fun _ _ e => e) (fun h' u tk hk' => ⟨_, _, rfl, fin h' u tk hk'⟩) hz'
  | @tup a xs ds e ha =>
    cases ru
    have hz' : (tupleText (D.shownAll ds)).length ≤ sizeLine := by simpa only [D.shown] using hz
    obtain ⟨_, its, rv, o, hgt, hc, n, hdat⟩ := (show ObjOk X.prog X.w H s.heap a (.tup xs) from I.hok a _ e)
    obtain ⟨bs, hb, hk⟩ := RpAll.reprK I ha rv (by simpa [D.ok] using ho) (fun t ht => Nat.le_trans (tupleText_mem_le ht) hz')
    have R : Rp X.K H (.ref a) (.tup ds) := .tup e ha
    have hna : a ∉ bs := AtMost.not I.hok R (by simp only [D.depth]; omega) hb
    simp only [D.depth] at hd
    refine call_repr_slot (by omega) ⟨_, hgt, hc⟩ F.slot_tuple_repr ?_
    simp only [D.shown] at fin
    exact call_tuple_reprK hgt hc hdat hna hk hg1 (fun b _ => Clear.nil b) (by show X.A.units + 1 + _ < cLine; omega) (fun _ _ e => e) (fun h' u tk hk' => ⟨_, _, rfl, fin h' u tk hk'⟩) hz'
  | @dic a ks xs ds e hl ha =>
    cases ru
    have hz' : (dictText (List.zipWith (fun k v : Str => k ++ ": " ++ v) (ks.map reprText) (D.shownAll ds))).length ≤ sizeLine := by simpa only [D.shown] using hz
    obtain ⟨_, ya, va, ra, o, es, ep, hgt, hx, hdat, _, hp, _⟩ := (show ObjOk X.prog X.w H s.heap a (.dK (List.zipWith (fun k v => (Sum.inr k, v)) ks xs)) from I.hok a _ e)
    have hlen : (ks.map reprText).length = (D.shownAll ds).length := by rw [List.length_map, shownAll_len, hl]; exact ha.len
    obtain ⟨z1, z2⟩ := zip_len hlen
    have ho' : D.okAll ds = true := by
      simp only [D.ok, Bool.and_eq_true] at ho
      exact ho.2
    obtain ⟨k1, rv⟩ := keys_repr (P := X.prog) (w := X.w) (bs := ([] : List Addr)) (h := s.heap) (n := D.depthAll ds) ra hp hl (fun k hk => by
      obtain ⟨p, hp, hq⟩ := z1 (reprText k) (List.mem_map_of_mem hk)
      exact Nat.le_trans hq (Nat.le_trans (dictText_mem_le hp) hz'))
    obtain ⟨bs, hb, k2⟩ := RpAll.reprK I ha rv ho' (fun t ht => by
      obtain ⟨p, hp, hq⟩ := z2 t ht
      exact Nat.le_trans hq (Nat.le_trans (dictText_mem_le hp) hz'))
    have R : Rp X.K H (.ref a) (.dic ks ds) := .dic e hl ha
    have hna : a ∉ bs := AtMost.not I.hok R (by simp only [D.depth]; omega) hb
    simp only [D.depth] at hd
    refine call_repr_slot (by omega) ⟨_, hgt, hx.1⟩ F.slot_dict_repr ?_
    simp only [D.shown] at fin
    exact call_dict_reprK hgt hx.1 hdat ya hna (ReprEntriesK.of_two es.toList _ _ (k1.more_le (fun b hb => absurd hb List.not_mem_nil) (Nat.le_refl _)) k2) hg1 (fun b _ => Clear.nil b) (by show X.A.units + 1 + _ < cLine; omega) (fun _ _ e => e) (fun h' u tk hk' => ⟨_, _, rfl, fin h' u tk hk'⟩) hz'
  | @exc a C t0 d hd' i e e2 e3 T _ _ =>
    cases ru
    obtain ⟨od, J⟩ := exc_inst I e e2
    obtain ⟨tk, ht⟩ := int_tup I e3
    simp only [D.shown] at fin hz
    exact PySem.GyRX.call_repr T I.kIn J rfl rfl ht (by simpa [D.ok] using ho) (by omega) (fun u tk' => fin s.heap u tk' fun _ _ e => e) hz
end
/-! ### == of a thing and itself, of two lists of the same things -/
theorem rc_exc {A : Around} {prog : Program} {w : World} {E : Value → Shared → Prop} {s : Shared} {K : PySem.W.Frag} {x C : Addr} {ox : Obj} {od : Option Obj} {Q : Value → Shared → Prop} (hu : A.units < cLine) (X : K.In s.heap) (I : PySem.W.InstAt s.heap x ox C od)
    (hm : PySem.W.mroIn K C (.type "object") = some true) (hs : PySem.W.findIn K (.ref C) "__eq__" = some (some (.builtin "object.__eq__"))) (hq : Q (.bool true) s) : wpAny (model prog w) A (richCompare .Eq (.ref x) (.ref x)) Q E s := by
  have one : wpAny (model prog w) A (tryCompare (.ref x) "__eq__" (.ref x)) (fun r s' => r = some (.bool true) ∧ s' = s) E s := by
    unfold tryCompare
    refine wpAny_bind (HN.ifBound_objEq X I hs ?_)
    refine wpAny_call (codeAny_call_builtin F.cmp_object.eq.plain F.cmpEntry_eq (PySem.W.check_slot F.cmpKind_eq F.cmpSplit_eq (I.type.andThen (PySem.W.looks_mroIn X hm)) (F.cmpArgs_eq _ _) (objEq_entry_same ?_)))
    exact wpAny_pure ⟨rfl, rfl⟩
  simp only [richCompare, cmpInfo_Eq, oneThing_ref]
  refine wpAny_holding (wpAny_bind (wpAny_cRoomFor hu ?_))
  refine wpAny_bind (I.type.here (wpAny_bind (I.type.here ?_)))
  have e : (Value.ref C != Value.ref C) = false := by simp
  simp only [e, Bool.false_eq_true, if_false]
  refine wpAny_bind (wpAny_pure ?_)
  simp only [Bool.not_false, if_true]
  refine wpAny_bind (m := tryCompare (.ref x) _ (.ref x)) (wpAny_mono one (fun r s1 z => ?_) fun _ _ e => e)
  obtain ⟨z1, z2⟩ := z
  subst z1
  subst z2
  exact wpAny_pure hq
end Gy

namespace Gy
open PySem L2 PySem.Spec PyProof.Rows
open PySem.GyRX (ShowC)
theorem rp_same {K : PySem.W.Frag} {H : Hp} {v : V} {d : D} (r : Rp K H v d) : EqV K H 1 v v := by
  cases r with
  | non => exact .inl ⟨rfl, rfl⟩
  | bl b => exact .inl ⟨rfl, rfl⟩
  | int i => exact .inl ⟨rfl, rfl⟩
  | str x => exact .inl ⟨rfl, rfl⟩
  | lst e _ => exact .inr (.inl ⟨_, rfl, rfl⟩)
  | tup e _ => exact .inr (.inl ⟨_, rfl, rfl⟩)
  | dic e _ _ => exact .inr (.inl ⟨_, rfl, rfl⟩)
  | exc e _ _ _ _ _ => exact .inr (.inl ⟨_, rfl, rfl⟩)
theorem rpAll_same {K : PySem.W.Frag} {H : Hp} : ∀ {vs : List V} {ds : List D}, RpAll K H vs ds → Paired (EqV K H 1) vs vs
  | _, _, .nil => .nil
  | _, _, .cons r rs => .cons (rp_same r) (rpAll_same rs)
theorem val_self : ∀ {ks : List (Key × V)}, (ks.map (·.1)).Nodup → ∀ p ∈ ks, valV ks p.1 = some p.2
  | [], _, p, h => absurd h List.not_mem_nil
  | q :: ks, nd, p, h => by
    rw [List.map_cons, List.nodup_cons] at nd
    rcases List.mem_cons.mp h with e | h
    · subst e
      simp [valV]
    · have hne : q.1 ≠ p.1 := fun e => nd.1 (e ▸ List.mem_map_of_mem h)
      have := val_self nd.2 p h
      simp only [valV] at this ⊢
      rw [List.find?_cons]
      simp [hne, this]
theorem kv_keys {ks : List (Key × V)} {vs : List (Key × Value)} (r : KV ks vs) : ks.map (·.1) = vs.map (·.1) := by
  unfold KV at r
  induction r with
  | nil => rfl
  | cons h _ ih => rw [List.map_cons, List.map_cons, h.1, ih]
section
variable {X : Cx}
def rEqA (K : PySem.W.Frag) : R2 := fun x y H Q => ((x = y ∧ ∃ d, Rp K H x d) ∨ ∃ a b xs ds, x = .ref a ∧ y = .ref b ∧ H a = some (.lst xs) ∧ H b = some (.lst xs) ∧ RpAll K H xs ds) ∧ Q (.bl true) H
theorem op_eqA (hu : X.A.units + 64 < cLine) : OpR X (compareOp .Eq) (rEqA X.K) := by
  intro pins s σ H x y v u Q I rx ry h
  obtain ⟨h, q⟩ := h
  have fin : EP X pins σ Q (.bool true) s := ⟨.bl true, H, I, rfl, q⟩
  rcases h with ⟨rfl, d, r⟩ | ⟨a, b, xs, ds, rfl, rfl, ha, hb, r⟩
  · cases r with
    | non => exact op_eq pins s σ H _ _ v u Q I rx ry ⟨rfl, by simpa using q⟩
    | bl b => exact op_eq pins s σ H _ _ v u Q I rx ry ⟨rfl, by simpa using q⟩
    | int i => exact op_eq pins s σ H _ _ v u Q I rx ry ⟨rfl, by simpa using q⟩
    | str z => exact op_eq pins s σ H _ _ v u Q I rx ry ⟨rfl, by simpa using q⟩
    | @lst a xs ds e ha => exact op_eqV hu pins s σ H _ _ v u Q I rx ry ⟨1, by decide, .inl ⟨a, a, xs, xs, rfl, rfl, SqL.of e, SqL.of e, rpAll_same ha⟩, q⟩
    | @tup a xs ds e ha =>
      cases rx
      cases ry
      obtain ⟨_, its, rv, o, hg, hc, n, hd⟩ := (show ObjOk X.prog X.w H s.heap a (.tup xs) from I.hok a _ e)
      refine SeqAt.rcIn_tuples (e := fun _ => true) (items := its.toArray) (items2 := its.toArray) ⟨o, hg, hc, n, hd⟩ ⟨o, hg, hc, n, hd⟩ (by omega) (fun j h1 h2 => (SeqAt.EqAt.same _).inModel _ _) ?_
      have e1 : ((List.range (min its.toArray.size its.toArray.size)).all fun _ => true) = true := List.all_eq_true.mpr fun _ _ => rfl
      rw [e1]
      simpa using fin
    | @dic a ks xs ds e hl ha =>
      obtain ⟨_, _, va, ra, o, es, ep, _, _, _, _, _, nd⟩ := (show ObjOk X.prog X.w H s.heap a (.dK (List.zipWith (fun k v => (Sum.inr k, v)) ks xs)) from I.hok a _ e)
      have nd' : ((List.zipWith (fun k v => ((Sum.inr k : Key), v)) ks xs).map (·.1)).Nodup := by rw [kv_keys ra]; exact nd
      refine op_eqV hu pins s σ H _ _ v u Q I rx ry ⟨1, by decide, .inr ⟨a, a, _, _, rfl, rfl, e, e, rfl, fun p hp => ⟨p.2, val_self nd' p hp, ?_⟩⟩, q⟩
      have mem : ∀ {ks : List Str} {xs : List V} {ds : List D}, RpAll X.K H xs ds → ∀ p ∈ List.zipWith (fun k v => ((Sum.inr k : Key), v)) ks xs, ∃ d, Rp X.K H p.2 d := by
        intro ks xs ds r
        induction xs generalizing ks ds with
        | nil => intro p hp; cases ks <;> simp at hp
        | cons x xs ih =>
          cases r with
          | cons r1 r2 =>
            intro p hp
            cases ks with
            | nil => simp at hp
            | cons k ks =>
              rw [List.zipWith_cons_cons] at hp
              rcases List.mem_cons.mp hp with e | hp
              · rw [e]
                exact ⟨_, r1⟩
              · exact ih r2 p hp
      obtain ⟨d, rd⟩ := mem ha p hp
      exact rp_same rd
    | @exc a C t0 d hd' i e e2 e3 T hm he =>
      cases rx
      cases ry
      obtain ⟨od, J⟩ := exc_inst I e e2
      exact rc_exc (by omega) I.kIn J hm he fin
  · exact op_eqV hu pins s σ H _ _ v u Q I rx ry ⟨1, by decide, .inl ⟨a, b, xs, xs, rfl, rfl, SqL.of ha, SqL.of hb, rpAll_same r⟩, q⟩
end
end Gy
namespace Gy
open PySem L2 PySem.Spec PyProof.Rows
abbrev sAlike : Stmt := top 28
/-- what is compared: a thing with itself, or two lists of the same things; it may be shown -/
def Alike (K : PySem.W.Frag) (H : Hp) (x y : V) : Prop := ∃ d, Rp K H x d ∧ Rp K H y d ∧ d.ok = true ∧ d.shown.length ≤ sizeLine ∧ d.depth ≤ 40 ∧ (x = y ∨ ∃ a b xs ds, x = .ref a ∧ y = .ref b ∧ H a = some (.lst xs) ∧ H b = some (.lst xs) ∧ RpAll K H xs ds)
def spAlike (K : PySem.W.Frag) : Sp := fun vs H Q _ => ∃ x y, vs = [x, y] ∧ Alike K H x y ∧ Q (.bl true) H
def NoGuard (A : Around) : Prop := A.guards = some []
section
variable {P : Program} {w : World} {K : PySem.W.Frag} {mg : Str → Option Value} {base : Heap}
theorem scAlike : FnScope ["_law_found", "_law_due"] ["_law_found", "_law_due"] (defScope sAlike) := ⟨rfl, rfl, rfl, by decide +kernel, rfl, by decide +kernel, by decide +kernel⟩
theorem ok_alike {f : Addr} {fd : FuncData} (F : Fun K "_law_alike" "_law_alike" sAlike f fd) (zR : mg "repr" = none) : FnG NoGuard P w K mg base 1 f fd ["_law_found", "_law_due"] (spAlike K) := by
  refine fn_ofG (c := false) F scAlike (fun A _ z => Bool.noConfusion z) (fun vs H Q E h => ?_) (fun cdv A outer s H vs Q E hG hr h => ?_)
  · obtain ⟨x, y, rfl, _⟩ := h
    rfl
  · obtain ⟨x, y, rfl, ⟨d, rx, ry, ho, hz, hd, hxy⟩, q⟩ := h
    have hg : (A.deeper (envOfC "_law_alike" (defScope sAlike) s.heap.objs.size f cdv)).guards = some [] := by
      have e : A.guards = some [] := hG
      show (A.deeper _).guards = _
      simpa [Around.deeper] using e
    have hu : (A.deeper (envOfC "_law_alike" (defScope sAlike) s.heap.objs.size f cdv)).units + 64 < cLine := by
      have := hr.un
      omega
    refine ⟨_, pss_one (ps_ret (pe_and (pe_cmpR (op_eqA hu) (pv 0) (pv 1) (nomark _)) (pe_one (pe_cmpR op_eq (pe_callB (call_reprD hg hu) (by rfl) zR (by decide +kernel) (pa_cons (pv 0) pa_nil)) (pe_callB (call_reprD hg hu) (by rfl) zR (by decide +kernel) (pa_cons (pv 1) pa_nil)) (nomark _))))), ?_⟩
    refine ⟨_, rfl, _, rfl, ⟨?_, _, rfl, iteT ⟨_, rfl, x, d, rfl, rx, ho, hz, hd, _, rfl, y, d, rfl, ry, ho, hz, hd, rfl, ?_⟩⟩⟩
    · rcases hxy with e | h
      · exact .inl ⟨e, d, rx⟩
      · exact .inr h
    · show Q (.bl (decide (V.str d.shown = V.str d.shown))) H
      rw [decide_eq_true rfl]
      exact q
end
end Gy

namespace Gy
open PySem L2 PySem.Spec PyProof.Rows
open PySem.GyRX (ShowC)
theorem PE.imp {X : Cx} {e : Expr} {t t' : TE} (h : PE X e t) (k : ∀ σ H Q, t' σ H Q → t σ H Q) : PE X e t' := ⟨fun pins s σ H Q I q => h.run pins s σ H Q I (k _ _ _ q)⟩
theorem PS.imp {X : Cx} {e : Stmt} {t t' : TS} (h : PS X e t) (k : ∀ D σ H, t' D σ H → t D σ H) : PS X e t' := ⟨fun pins s σ H D I q => h.run pins s σ H D I (k _ _ _ q)⟩
/-- an exception of the class at C with the fields fs, made of the values vs -/
def Err (H : Hp) (a C : Addr) (fs : List (Str × V)) (vs : List V) : Prop := ∃ d t, H a = some (exq a C (some d) t) ∧ H d = some (exd d fs) ∧ H t = some (.tup vs)
theorem Err.same {H H' : Hp} {a C : Addr} {fs : List (Str × V)} {vs : List V} (h : Err H a C fs vs) (s : Same H H') : Err H' a C fs vs :=
  let ⟨d, t, h1, h2, h3⟩ := h
  ⟨d, t, s _ _ h1, s _ _ h2, s _ _ h3⟩
/-- .. with a dict that wasn't there in H0 -/
def ErrN (H0 H : Hp) (a C : Addr) (fs : List (Str × V)) (vs : List V) : Prop := ∃ d t, H0 d = none ∧ H0 t = none ∧ H a = some (exq a C (some d) t) ∧ H d = some (exd d fs) ∧ H t = some (.tup vs)
theorem ErrN.err {H0 H : Hp} {a C : Addr} {fs : List (Str × V)} {vs : List V} (h : ErrN H0 H a C fs vs) : Err H a C fs vs :=
  let ⟨d, t, _, _, h1, h2, h3⟩ := h
  ⟨d, t, h1, h2, h3⟩
theorem ErrN.of {H0 H : Hp} {a b C : Addr} {o : HO} {fs : List (Str × V)} {vs : List V} (h : ErrN (upd H0 b o) H a C fs vs) : ErrN H0 H a C fs vs :=
  let ⟨d, t, h0, h0', h1, h2, h3⟩ := h
  have un : ∀ {d : Addr}, upd H0 b o d = none → H0 d = none := fun {d} h0 => by
    by_cases e : d = b
    · rw [e, upd_same] at h0
      cases h0
    · rw [upd_ne e] at h0
      exact h0
  ⟨d, t, un h0, un h0', h1, h2, h3⟩
/-- an exception class of the program whose __init__ stores one thing, or two -/
structure ErrC (K : PySem.W.Frag) (mg : Str → Option Value) (G : Addr) : Prop where
  gG : mg "GoneError" = some (.ref G)
  rG : PySem.W.readsIn K G (.type "type") = true
  sG : PySem.W.specialIn K (.ref G) "__getattribute__" = some (some (.builtin "type.__getattribute__"))
  iG : PySem.W.findCls K (.ref G) (.type "type") "__init__" = some (.val (.builtin "ValueError.__init__"))
def spIni1 (K : PySem.W.Frag) (C : Addr) (f : Str) : Sp := fun vs H Q _ => ∃ (a t0 : Addr) (v : V), vs = [.ref a, v] ∧ H a = some (exq a C none t0) ∧ ∀ H' : Hp, (∀ b o, b ≠ a → H b = some o → H' b = some o) → ErrN H H' a C [(f, v)] [v] → Q .non H'
def spIni2 (K : PySem.W.Frag) (C : Addr) (f g : Str) : Sp := fun vs H Q _ => ∃ (a t0 : Addr) (v u : V), vs = [.ref a, v, u] ∧ H a = some (exq a C none t0) ∧ ∀ H' : Hp, (∀ b o, b ≠ a → H b = some o → H' b = some o) → ErrN H H' a C [(g, u), (f, v)] [v, u] → Q .non H'
abbrev sIni (i : Nat) : Stmt := inClass (top i) 0
section
variable {P : Program} {w : World} {K : PySem.W.Frag} {mg : Str → Option Value} {base : Heap}
theorem ini1_read {H : Hp} {a t0 C : Addr} {v : V} {f : Str} {Q : VK} (h : H a = some (exq a C none t0)) (k : ∀ H' : Hp, (∀ b o, b ≠ a → H b = some o → H' b = some o) → ErrN H H' a C [(f, v)] [v] → Q .non H')
    {t1 dx : Addr} (n1 : H t1 = none) (e1 : t1 ≠ a) (n2 : upd (upd H t1 (.tup [v])) a (exq a C none t1) dx = none) (e2 : dx ≠ a) :
    Q .non (upd (upd (upd (upd H t1 (.tup [v])) a (exq a C none t1)) dx (exd dx [(f, v)])) a (exq a C (some dx) t1)) := by
  have e3 : dx ≠ t1 := fun e => by
    rw [e, upd_ne e1, upd_same] at n2
    cases n2
  have n3 : H dx = none := by
    rw [upd_ne e2, upd_ne e3] at n2
    exact n2
  refine k _ (fun b o hb e => ?_) ⟨dx, t1, n3, n1, upd_same, by rw [upd_ne e2, upd_same], by rw [upd_ne e1, upd_ne (Ne.symm e3), upd_ne e1, upd_same]⟩
  rw [upd_ne hb]
  have q : upd (upd H t1 (.tup [v])) a (exq a C none t1) b = some o := by rw [upd_ne hb, upd_ne (ne_of_none e n1)]; exact e
  rw [upd_ne (ne_of_none q n2)]
  exact q
theorem ok_ini_NoKind {f C G : Addr} {fd : FuncData} (F : Fun K "__init__" "NoKind.__init__" (sIni 2) f fd) (T : ErrC K mg G) (E0 : OexC K C) (nF : PySem.W.findIn K (.ref C) "name" = some none) : FnOk P w K mg base CX0 1 f fd ["self", "name"] (spIni1 K C "name") := by
  have sc : FnScope ["self", "name"] ["self", "name"] (defScope (sIni 2)) := ⟨rfl, rfl, rfl, by decide +kernel, rfl, by decide +kernel, by decide +kernel⟩
  refine F.ok sc (fun vs H Q E h => ?_) (fun cdv A outer s H vs Q E hr h => ?_)
  · obtain ⟨a, t0, v, rfl, _⟩ := h
    rfl
  · obtain ⟨a, t0, v, rfl, h, k⟩ := h
    refine ⟨_, pss_cons (ps_expr (pe_qinit rfl T.gG T.rG T.sG T.iG (pa_cons (pv 0) (pa_cons (pv 1) pa_nil)))) (pss_one (ps_qst (pv 0) (pv 1))), ?_⟩
    refine ⟨_, rfl, _, rfl, a, C, t0, [v], rfl, (by decide : 1 ≤ 1000), E0, h, fun t1 n1 e1 => ?_⟩
    refine ⟨_, rfl, _, rfl, a, C, t1, rfl, E0, nF, .inl ⟨upd_same, fun dx n2 e2 => ini1_read h k n1 e1 n2 e2⟩⟩


end
/-- C(e), C(e, e'): an exception, made -/
def rErr (C : Addr) (g : List V → Option (List (Str × V))) : List V → Hp → VK → Prop := fun vs H1 Q => ∃ fs, g vs = some fs ∧ ∀ a H2, Same H1 H2 → H1 a = none → ErrN H1 H2 a C fs vs → Q (.ref a) H2
def g1 (f : Str) : List V → Option (List (Str × V))
  | [v] => some [(f, v)]
  | _ => none
def g2 (f g : Str) : List V → Option (List (Str × V))
  | [v, u] => some [(g, u), (f, v)]
  | _ => none
theorem same_made {H1 H2 : Hp} {a : Addr} {o : HO} (n : H1 a = none) (k : ∀ b u, b ≠ a → upd H1 a o b = some u → H2 b = some u) : Same H1 H2 := fun b u e => k b u (ne_of_none e n) (by rw [upd_ne (ne_of_none e n)]; exact e)
section
variable {X : Cx} {o e : Expr} {es : List Expr} {to te : TE} {ta : TA} {f n : Str} {p p' p1 p2 pos : Pos}
theorem pe_mkR {R : List V → Hp → VK → Prop} {x : Str} {C fI : Addr} {k : Nat} {fd : FuncData} {ps : List Str} {sp : Sp} (T : OexC X.K C) (iC : PySem.W.findIn X.K (.ref C) "__init__" = some (some (.ref fI))) (tI : PySem.W.typeIn X.K (.ref fI) = some (.type "function"))
    (F1 : FnOk X.prog X.w X.K X.mg X.base CX0 k fI fd ps sp) (hr : Room (k + 1) X.A) (hb : Binds X.K fd ps []) (hg : Gl X x) (hm : X.mg x = some (.ref C)) (ha : PA X (e :: es) ta) (hR : ∀ vs H1 Q, R vs H1 Q → vs.length ≤ 1000 ∧ ∀ a t0, H1 a = none → sp (.ref a :: vs) (upd H1 a (exq a C none t0)) (fun v H2 => v = .non ∧ Q (.ref a) H2) E0)
    (hdb : (x == ("__debug__" : Str)) = false := by decide) (he : starEach (e :: es) X.env = (false, eval e X.env) :: starEach es X.env := by rfl) (hpl : (backTo pos (starEach es X.env)).any (·.1) = false := by rfl) :
    PE X (.Call (.Name x p) (e :: es) [] pos) (fun σ H Q => ta σ H fun vs H1 => R vs H1 Q) := by
  refine ⟨fun pins s σ H Q I h => ?_⟩
  obtain ⟨nm, q, N, bs, bm, sn, sub, ab, col, dd, k0, k1, k2, k3, k5, hC, hbm⟩ := T.cls
  refine wpAny_Call_Name_kw (ld_glob I hg hm ?_ hdb)
  refine PySem.W.callWith_K (h₀ := X.base) I.ok.mod.kin T.kC (thn (ha.run pos pins s σ H _ I h) fun us s1 ⟨vs, H1, I1, r1, q0⟩ => ⟨I1.kIn, ?_⟩) he hpl
  obtain ⟨hz, q1⟩ := hR _ _ _ q0
  show wpAny _ _ (call (.ref C) us) _ _ _
  obtain ⟨hp, g, dr, tk, os⟩ := s1
  have hsz : hp.objs.size ≤ hp.objs.size + 1 := Nat.le_succ _
  have hn : H1 (hp.objs.size + 1) = none := I1.hok.fresh hsz
  have hq := q1 (hp.objs.size + 1) hp.objs.size hn
  have kk : ∀ b o, hp.get? b = some o → ((hp.push (PySem.W.kdv_tup us)).push (PySem.HandSPX.excO C hp.objs.size)).get? b = some o := fun b o e => Heap.get?_push_of_some _ (Heap.get?_push_of_some _ e)
  have hget : ((hp.push (PySem.W.kdv_tup us)).push (PySem.HandSPX.excO C hp.objs.size)).get? (hp.objs.size + 1) = some (PySem.HandSPX.excO C hp.objs.size) := by heap_get
  have I2 : Inv X pins σ (upd H1 (hp.objs.size + 1) (exq (hp.objs.size + 1) C none hp.objs.size)) ⟨(hp.push (PySem.W.kdv_tup us)).push (PySem.HandSPX.excO C hp.objs.size), g, dr, tk, os⟩ :=
    I1.laid (t' := tk) (a := hp.objs.size + 1) (o := exq (hp.objs.size + 1) C none hp.objs.size) (h' := (hp.push (PySem.W.kdv_tup us)).push (PySem.HandSPX.excO C hp.objs.size)) kk hsz (exq_ok hget)
  have r2 : Vals (V.ref (hp.objs.size + 1) :: vs) (Value.ref (hp.objs.size + 1) :: us) := .cons rfl r1
  have hl : (Value.ref (hp.objs.size + 1) :: us).length = ps.length := by
    have e := r2.length
    rw [F1.len _ _ _ _ hq] at e
    exact e.symm
  have hus : us.length ≤ sizeLine := by
    rw [← Paired.length r1, sizeLine_eq]
    omega
  have hb2 := hb ⟨(hp.push (PySem.W.kdv_tup us)).push (PySem.HandSPX.excO C hp.objs.size), g, dr, tk, os⟩ (Value.ref (hp.objs.size + 1) :: us) I2.kIn (by rw [List.append_nil]; exact hl)
  rw [List.append_nil] at hb2
  refine wpAny_call (PySem.HandSPX.call_own F.excBase_ValueError (fun Y => PySem.HandSPX.refsVE_contains Y bm hbm) (I1.kIn _ _ hC) (PySem.W.looks_findIn I1.kIn iC) (fun self => PySem.W.bind_fn I1.kIn self tI) hus
    (codeAny_mono (F1.run _ X.stack _ _ ⟨Value.ref (hp.objs.size + 1) :: us, []⟩ (Value.ref (hp.objs.size + 1) :: us) _ _ E0 (hr.make C us []) (I2.env0.make C us []) hb2 r2 hq) fun r s' hq' => ?_))
  cases r with
  | error er => exact False.elim hq'
  | ok fl =>
    cases fl with
    | ret u =>
      obtain ⟨v, H', I3, rv, ev, q3⟩ := I2.after hq'
      subst ev
      exact ⟨rv, ⟨V.ref (hp.objs.size + 1), H', I3, rfl, q3⟩⟩
    | next => exact False.elim hq'
    | brk => exact False.elim hq'
    | cont => exact False.elim hq'
end
section
variable {X : Cx} {e : Expr} {es : List Expr} {ta : TA} {p pos : Pos} {x : Str} {C fI : Addr} {fd : FuncData} {f g : Str} {k : Nat}
def tErr (C : Addr) (g : List V → Option (List (Str × V))) (ta : TA) : TE := fun σ H Q => ta σ H fun vs H1 => rErr C g vs H1 Q
theorem pe_err1 (T : OexC X.K C) (iC : PySem.W.findIn X.K (.ref C) "__init__" = some (some (.ref fI))) (tI : PySem.W.typeIn X.K (.ref fI) = some (.type "function")) (F1 : FnOk X.prog X.w X.K X.mg X.base CX0 k fI fd ["self", f] (spIni1 X.K C f)) (hr : Room (k + 1) X.A)
    (hb : Binds X.K fd ["self", f] []) (hg : Gl X x) (hm : X.mg x = some (.ref C)) (ha : PA X (e :: es) ta) (hdb : (x == ("__debug__" : Str)) = false := by decide)
    (he : starEach (e :: es) X.env = (false, eval e X.env) :: starEach es X.env := by rfl) (hpl : (backTo pos (starEach es X.env)).any (·.1) = false := by rfl) :
    PE X (.Call (.Name x p) (e :: es) [] pos) (tErr C (g1 f) ta) :=
  pe_mkR (R := rErr C (g1 f)) T iC tI F1 hr hb hg hm ha (fun vs H1 Q ⟨fs, e1, q⟩ => by
    match vs, e1 with
    | [v], e1 =>
      cases e1
      exact ⟨(by decide : 1 ≤ 1000), fun a t0 n => ⟨a, t0, v, rfl, upd_same, fun H' k e => ⟨rfl, q a H' (same_made n k) n e.of⟩⟩⟩) hdb he hpl
theorem pe_err2 (T : OexC X.K C) (iC : PySem.W.findIn X.K (.ref C) "__init__" = some (some (.ref fI))) (tI : PySem.W.typeIn X.K (.ref fI) = some (.type "function")) (F1 : FnOk X.prog X.w X.K X.mg X.base CX0 k fI fd ["self", f, g] (spIni2 X.K C f g)) (hr : Room (k + 1) X.A)
    (hb : Binds X.K fd ["self", f, g] []) (hg : Gl X x) (hm : X.mg x = some (.ref C)) (ha : PA X (e :: es) ta) (hdb : (x == ("__debug__" : Str)) = false := by decide)
    (he : starEach (e :: es) X.env = (false, eval e X.env) :: starEach es X.env := by rfl) (hpl : (backTo pos (starEach es X.env)).any (·.1) = false := by rfl) :
    PE X (.Call (.Name x p) (e :: es) [] pos) (tErr C (g2 f g) ta) :=
  pe_mkR (R := rErr C (g2 f g)) T iC tI F1 hr hb hg hm ha (fun vs H1 Q ⟨fs, e1, q⟩ => by
    match vs, e1 with
    | [v, u], e1 =>
      cases e1
      exact ⟨(by decide : 2 ≤ 1000), fun a t0 n => ⟨a, t0, v, u, rfl, upd_same, fun H' k e => ⟨rfl, q a H' (same_made n k) n e.of⟩⟩⟩) hdb he hpl
end
end Gy

namespace Gy
open PySem L2 PySem.Spec PyProof.Rows
section
variable {X : Cx} {pins : List (Addr × Obj)} {σ : L2.St} {H : Hp} {s : Shared}
theorem exd_ne_own {d : Addr} {fs : List (Str × V)} {x : Addr} : exd d fs ≠ .own x := exd_own
/-- an exception's dict, told as such -/
theorem Inv.swap {d : Addr} {fs : List (Str × V)} (I : Inv X pins σ H s) (e : H d = some (exd d fs)) : Inv X pins σ (upd H d (.xd fs)) s := by
  obtain ⟨mA, hns, rel⟩ := exd_at I.hok e
  have U : Un X.fs [] H (upd H d (.xd fs)) s.heap s.heap := {
    keep := fun b o q n _ _ => q
    slot := fun b o q n _ _ => ⟨o.slots, q⟩
    free := fun b o q n _ => by rw [upd_ne (fun z => by rw [z, e] at n; cases n)]; exact n
    there := fun b o q _ => ⟨o, q⟩
    tups := fun b xs q => by rw [upd_ne (at_ne e q exd_tup)]; exact q
    frzs := fun b o v q => by rw [upd_ne (at_ne e q exd_frz)]; exact q
    tbls := fun b ps q => ⟨#[], by rw [upd_ne (at_ne e q exd_tbl), q]; simp⟩ }
  have J := I.un (t' := s.toks) U fun b o q => by
    by_cases hb : b = d
    · subst hb
      rw [upd_same] at q
      cases q
      exact ⟨mA, hns, rel⟩
    · rw [upd_ne hb] at q
      exact (I.hok b o q).stay (fun c v hc z => z) (fun c hc => by rw [upd_ne (at_ne e hc exd_own)]; exact hc) (fun c xs hc => by rw [upd_ne (at_ne e hc exd_tup)]; exact hc)
  exact J
/-- an expression whose value is a new exception, raised -/
def rExq (K : PySem.W.Frag) (H0 : Hp) : V → Hp → XK → Prop := fun x H Q => ∃ a C d t, x = .ref a ∧ H0 a = none ∧ H a = some (exq a C d t) ∧ ExQ K C ∧ ((d = none ∧ Q (.ref C) none (delH H a)) ∨ ∃ dd fs, d = some dd ∧ H dd = some (exd dd fs) ∧ Q (.ref C) (some dd) (upd (delH H a) dd (.xd fs)))
theorem pmk_exq (K : PySem.W.Frag) (H0 : Hp) {e : Expr} {te : TE} (hK : X.K = K) (hH : X.H_0 = H0) (hx : X.ex = []) (he : PE X e te) :
    PMk X e (fun σ H Q => te σ H fun x H1 => rExq K H0 x H1 Q) := by
  subst hK hH
  intro pins s σ H Q I h
  refine wpAny_mono (he.run pins s σ H _ I h) (fun u s1 hu => ?_) fun _ _ x => x
  obtain ⟨v, H1, I1, r1, a, C, d, t, rfl, h0, ha, T, q⟩ := hu
  cases r1
  have hr : Raises X (.ref C) := raises_own T.oex.exC T.oex.tyC
  have ho := exq_at I1.hok ha
  obtain ⟨G, gs, ga, J⟩ := I1.untrack (φ := fun h => h.get? a = some ({ cls := .ref C, dict := d, data := .fields #[.ref t, .none, .none, .none, .bool false, .none] } : Obj)) ha (fr0_none h0) hx
  rcases q with ⟨rfl, q⟩ | ⟨dd, fs, rfl, ed, q⟩
  · exact ⟨a, _, _, { s1 with heap := G }, delH H1 a, .ref C, none, rfl, J, gs, ga, ho, ⟨rfl, rfl⟩, rfl, rfl, delH_same, rfl, I1.bare, hr, q⟩
  · have hda : dd ≠ a := fun z => by
      rw [z, ha] at ed
      obtain ⟨mA, hns, _⟩ := exd_at (h := s1.heap) (H := upd H1 a (exd a fs)) (dx := a) (fs := fs) (fun b o q => by
        by_cases hb : b = a
        · subst hb
          rw [upd_same] at q
          cases q
          have := I1.hok b _ ha
          rw [Option.some.inj ed] at this
          exact this.stay (fun _ _ _ z => z) (fun c hc => by
            by_cases hcb : c = b
            · rw [hcb, ha] at hc
              exact absurd (Option.some.inj hc) exq_own
            · rw [upd_ne hcb]; exact hc) (fun c xs hc => by
            by_cases hcb : c = b
            · rw [hcb, ha] at hc
              exact absurd (Option.some.inj hc) exq_tup
            · rw [upd_ne hcb]; exact hc)
        · rw [upd_ne hb] at q
          exact (I1.hok b o q).stay (fun _ _ _ z => z) (fun c hc => by
            by_cases hcb : c = a
            · rw [hcb, ha] at hc
              exact absurd (Option.some.inj hc) exq_own
            · rw [upd_ne hcb]; exact hc) (fun c xs hc => by
            by_cases hcb : c = a
            · rw [hcb, ha] at hc
              exact absurd (Option.some.inj hc) exq_tup
            · rw [upd_ne hcb]; exact hc)) upd_same
      obtain ⟨o, es, ep, e1, e2, _⟩ := hns
      rw [ho] at e1
      have z2 := Option.some.inj e1
      subst z2
      cases e2
    have ed' : delH H1 a dd = some (exd dd fs) := by rw [delH_ne hda]; exact ed
    have J2 := Inv.swap J ed'
    exact ⟨a, _, _, { s1 with heap := G }, upd (delH H1 a) dd (.xd fs), .ref C, some dd, rfl, J2, gs, ga, ho, ⟨rfl, rfl⟩, rfl, rfl, by rw [upd_ne (Ne.symm hda)]; exact delH_same, rfl, I1.bare, hr, q⟩
end
end Gy

namespace Gy
open PySem L2 PySem.Spec PyProof.Rows
open PySem.GyRX (ShowC)
mutual
theorem Rp.same {K : PySem.W.Frag} {H H' : Hp} (s : Same H H') : ∀ {v : V} {d : D}, Rp K H v d → Rp K H' v d
  | _, _, .non => .non
  | _, _, .bl b => .bl b
  | _, _, .int i => .int i
  | _, _, .str x => .str x
  | _, _, .lst e r => .lst (s _ _ e) (RpAll.same s r)
  | _, _, .tup e r => .tup (s _ _ e) (RpAll.same s r)
  | _, _, .dic e l r => .dic (s _ _ e) l (RpAll.same s r)
  | _, _, .exc e e2 e3 T m q => .exc (s _ _ e) (fun dd z => let ⟨fs, y⟩ := e2 dd z; ⟨fs, s _ _ y⟩) (s _ _ e3) T m q
theorem RpAll.same {K : PySem.W.Frag} {H H' : Hp} (s : Same H H') : ∀ {vs : List V} {ds : List D}, RpAll K H vs ds → RpAll K H' vs ds
  | _, _, .nil => .nil
  | _, _, .cons r rs => .cons (Rp.same s r) (RpAll.same s rs)
end
/-- a datum that may be shown, with room to spare -/
def Good (K : PySem.W.Frag) (H : Hp) (v : V) (d : D) : Prop := Rp K H v d ∧ d.ok = true ∧ d.shown.length ≤ 100000 ∧ d.depth ≤ 20
theorem Good.same {K : PySem.W.Frag} {H H' : Hp} {v : V} {d : D} (g : Good K H v d) (s : Same H H') : Good K H' v d := ⟨Rp.same s g.1, g.2⟩
theorem sizeLine_big : 1000000 ≤ sizeLine := by show 1000000 ≤ sizeLine; decide
theorem Good.alike {K : PySem.W.Frag} {H : Hp} {v : V} {d : D} (g : Good K H v d) : Alike K H v v :=
  ⟨d, g.1, g.1, g.2.1, Nat.le_trans g.2.2.1 (Nat.le_trans (by decide) sizeLine_big), Nat.le_trans g.2.2.2 (by decide), .inl rfl⟩
/-- two lists of the same good things, few -/
inductive Goods (K : PySem.W.Frag) (H : Hp) : List V → List D → Prop
  | nil : Goods K H [] []
  | cons {v : V} {vs : List V} {d : D} {ds : List D} : Good K H v d → Goods K H vs ds → Goods K H (v :: vs) (d :: ds)
theorem Goods.rp {K : PySem.W.Frag} {H : Hp} : ∀ {vs : List V} {ds : List D}, Goods K H vs ds → RpAll K H vs ds ∧ D.okAll ds = true ∧ ((D.shownAll ds).map (·.length)).sum ≤ 100000 * vs.length ∧ D.depthAll ds ≤ 20 ∧ ds.length = vs.length
  | _, _, .nil => ⟨.nil, rfl, Nat.zero_le _, Nat.zero_le _, rfl⟩
  | _, _, .cons g gs => by
    obtain ⟨h1, h2, h3, h4, h5⟩ := gs.rp
    obtain ⟨g1, g2, g3, g4⟩ := g
    refine ⟨.cons g1 h1, by simp [D.okAll, g2, h2], ?_, by simp only [D.depthAll]; omega, by simp [h5]⟩
    simp only [D.shownAll, List.map_cons, List.sum_cons, List.length_cons]
    omega
theorem Goods.same {K : PySem.W.Frag} {H H' : Hp} (s : Same H H') : ∀ {vs : List V} {ds : List D}, Goods K H vs ds → Goods K H' vs ds
  | _, _, .nil => .nil
  | _, _, .cons g gs => .cons (g.same s) (gs.same s)
theorem Goods.alike {K : PySem.W.Frag} {H : Hp} {a b : Addr} {vs : List V} {ds : List D} (g : Goods K H vs ds) (hl : vs.length ≤ 9) (ha : H a = some (.lst vs)) (hb : H b = some (.lst vs)) : Alike K H (.ref a) (.ref b) := by
  obtain ⟨h1, h2, h3, h4, h5⟩ := g.rp
  refine ⟨.lst ds, .lst ha h1, .lst hb h1, by simpa [D.ok] using h2, ?_, by simp only [D.depth]; omega, .inr ⟨a, b, vs, ds, rfl, rfl, ha, hb, h1⟩⟩
  simp only [D.shown]
  refine Nat.le_trans (listText_len_le _) (Nat.le_trans ?_ sizeLine_big)
  rw [shownAll_len, h5]
  omega
/-- isinstance(e, c), e the exception that a suite holds -/
def rIsX (K : PySem.W.Frag) (a : Addr) (cls : Value) (d : Option Addr) : List V → Hp → VK → Prop := fun xs H Q => ∃ (C : Addr) (c : V) (cv : Value) (b : Bool), xs = [.ref a, c] ∧ cls = .ref C ∧ ExQ K C ∧ (∀ dd, d = some dd → ∃ fs, H dd = some (.xd fs)) ∧
  (∀ u, RelV c u → u = cv) ∧ PySem.W.kitOne K (.ref C) cv = some b ∧ Q (.bl b) H
theorem call_isX {X : Cx} {a : Addr} {oe : Obj} {cls : Value} {d : Option Addr} {pn : List (Addr × Obj)} (hz : Zc cls d oe) (hf : ∃ vs, oe.data = .fields vs) : CallR (X.suite a ((a, oe) :: pn)) (.builtin "isinstance") (rIsX X.K a cls d) := by
  intro pins s σ H xs us Q I r h
  obtain ⟨C, c, cv, b, rfl, ec, T, ed, hcv, e, q⟩ := h
  subst ec
  cases r with
  | cons rx rr =>
    cases rr with
    | cons rt rr =>
      cases rr
      cases rx
      have ec := hcv _ rt
      subst ec
      obtain ⟨hget, _⟩ := I.pin (a, oe) (List.mem_append.mpr (.inl List.mem_cons_self))
      obtain ⟨vs, hv⟩ := hf
      have hcl : (PySem.W.clsIn X.K C).isSome = true := by
        obtain ⟨nm, q, N, bs, bm, sn, sub, ab, col, dd, k0, k1, k2, k3, k5, hC, hbm⟩ := T.oex.cls
        unfold PySem.W.clsIn
        rw [hC] <;> rfl
      have J : ∃ od, PySem.W.InstAt s.heap a oe C od := by
        cases d with
        | none => exact ⟨none, hget, hz.1, by unfold PySem.W.notCls; rw [hv] <;> rfl, by rw [hz.2]; trivial⟩
        | some dd =>
          obtain ⟨fs, ed⟩ := ed dd rfl
          obtain ⟨mA, hns, hr⟩ := (show ObjOk X.prog X.w H s.heap dd (.xd fs) from I.hok dd _ ed)
          obtain ⟨od, ho, hl⟩ := lookIn_ns hns
          exact ⟨some od, hget, hz.1, by unfold PySem.W.notCls; rw [hv] <;> rfl, by rw [hz.2]; exact ho⟩
      obtain ⟨od, J⟩ := J
      exact PySem.W.kia_one (PySem.W.kitx_exc hcl T.ga T.gg T.oex.exC T.cl T.cn T.ct T.cm) I.kIn J e (fun z => nomatch z) fun tk => ⟨.bl b, H, I.kept (t' := tk) fun _ _ z => z, rfl, q⟩
end Gy

namespace Gy
open PySem L2 PySem.Spec PyProof.Rows
open PySem.GyRX (ShowC)
def NoGuardC (A : Around) : Prop := A.guards = some [] ∧ A.handled = none
/-- a class whose __init__ stores one thing f: all that a call of it wants -/
structure Mk1 (P : Program) (w : World) (K : PySem.W.Frag) (mg : Str → Option Value) (base : Heap) (x : Str) (C : Addr) (f : Str) : Prop where
  g : mg x = some (.ref C)
  q : ExQ K C
  nf : PySem.W.findIn K (.ref C) f = some none
  ini : ∃ (fI : Addr) (fd : FuncData), PySem.W.findIn K (.ref C) "__init__" = some (some (.ref fI)) ∧ PySem.W.typeIn K (.ref fI) = some (.type "function") ∧ FnOk P w K mg base CX0 1 fI fd ["self", f] (spIni1 K C f) ∧ L2.Binds K fd ["self", f] []
structure Mk2 (P : Program) (w : World) (K : PySem.W.Frag) (mg : Str → Option Value) (base : Heap) (x : Str) (C : Addr) (f f' : Str) : Prop where
  g : mg x = some (.ref C)
  q : ExQ K C
  nf : PySem.W.findIn K (.ref C) f = some none
  ng : PySem.W.findIn K (.ref C) f' = some none
  ini : ∃ (fI : Addr) (fd : FuncData), PySem.W.findIn K (.ref C) "__init__" = some (some (.ref fI)) ∧ PySem.W.typeIn K (.ref fI) = some (.type "function") ∧ FnOk P w K mg base CX0 1 fI fd ["self", f, f'] (spIni2 K C f f') ∧ L2.Binds K fd ["self", f, f'] []
structure Mk0 (K : PySem.W.Frag) (mg : Str → Option Value) (x : Str) (C : Addr) : Prop where
  g : mg x = some (.ref C)
  q : ExQ K C
  x : ∃ bmB, ExcBaseFacts "ValueError" "ValueError.__new__" "ValueError.__init__" bmB ∧ PySem.W.excIn K C bmB "ValueError.__new__" = true
section
variable {X : Cx} {e : Expr} {es : List Expr} {ta : TA} {p pos : Pos} {x : Str} {C : Addr} {f g : Str}
theorem pe_mk1 (M : Mk1 X.prog X.w X.K X.mg X.base x C f) (hr : Room 2 X.A) (hg : Gl X x) (ha : PA X (e :: es) ta) (hdb : (x == ("__debug__" : Str)) = false := by decide)
    (he : starEach (e :: es) X.env = (false, eval e X.env) :: starEach es X.env := by rfl) (hpl : (backTo pos (starEach es X.env)).any (·.1) = false := by rfl) : PE X (.Call (.Name x p) (e :: es) [] pos) (tErr C (g1 f) ta) := by
  obtain ⟨fI, fd, h1, h2, h3, h4⟩ := M.ini
  exact pe_err1 M.q.oex h1 h2 h3 hr h4 hg M.g ha hdb he hpl
theorem pe_mk2 (M : Mk2 X.prog X.w X.K X.mg X.base x C f g) (hr : Room 2 X.A) (hg : Gl X x) (ha : PA X (e :: es) ta) (hdb : (x == ("__debug__" : Str)) = false := by decide)
    (he : starEach (e :: es) X.env = (false, eval e X.env) :: starEach es X.env := by rfl) (hpl : (backTo pos (starEach es X.env)).any (·.1) = false := by rfl) : PE X (.Call (.Name x p) (e :: es) [] pos) (tErr C (g2 f g) ta) := by
  obtain ⟨fI, fd, h1, h2, h3, h4⟩ := M.ini
  exact pe_err2 M.q.oex h1 h2 h3 hr h4 hg M.g ha hdb he hpl
theorem pe_mk0 (M : Mk0 X.K X.mg x C) (hg : Gl X x) (hdb : (x == ("__debug__" : Str)) = false := by decide) : PE X (.Call (.Name x p) [] [] pos) (tMkQ0 C) := by
  obtain ⟨bmB, h1, h2⟩ := M.x
  exact pe_mkq0 h1 h2 M.q.oex.kC hg M.g hdb
end
def xfc {K : PySem.W.Frag} {C : Addr} (T : ExQ K C) : XfC K C := ⟨T.ga, T.gg, T.oex.exC, T.hd⟩
def tAl (K : PySem.W.Frag) (t : TA) : TE := fun σ H Q => t σ H fun vs H1 => spAlike K vs H1 Q E0
def tRs (K : PySem.W.Frag) (H0 : Hp) (te : TE) (W : WX) : TS := fun _ σ H => te σ H fun x H1 => rExq K H0 x H1 fun cls d H' => W cls d σ H'
theorem ps_raiseQ {X : Cx} {K : PySem.W.Frag} {H0 : Hp} {W : WX} {e : Expr} {te : TE} {pos : Pos} (hc : X.calm = true) (tk : Takes X W) (hK : X.K = K) (hH : X.H_0 = H0) (hx : X.ex = []) (he : PE X e te) : PS X (.Raise (some e) none pos) (tRs K H0 te W) :=
  ps_raise hc tk (pmk_exq K H0 hK hH hx he)
def tIsX (K : PySem.W.Frag) (a : Addr) (cls : Value) (d : Option Addr) (c : V) : TE := tCB (rIsX K a cls d) (tCons (tVar 2) (tCons (tC c) tNil))
def tApp (K : PySem.W.Frag) (te : TE) : TS := tDrop (tBM K "list" rAppend (tVar 1) (tCons te tNil))
/-- behind a raise: what stood ahead of the making stands -/
theorem raised_same {H H2 : Hp} {e dd : Addr} {fs : List (Str × V)} (s : Same H H2) (he : H e = none) (hd : H dd = none) : Same H (upd (delH H2 e) dd (.xd fs)) := fun b o h => by
  have h1 : b ≠ e := ne_of_none h he
  have h2 : b ≠ dd := ne_of_none h hd
  rw [upd_ne h2, delH_ne h1]
  exact s _ _ h
theorem del_same' {H H2 : Hp} {e : Addr} (s : Same H H2) (he : H e = none) : Same H (delH H2 e) := fun b o h => by
  rw [delH_ne (ne_of_none h he)]
  exact s _ _ h
theorem same_new {H H1 : Hp} {p : Addr} {o : HO} (s : Same H H1) (hp : H1 p = none) : Same H (upd H1 p o) := fun b u h => by
  rw [upd_ne (ne_of_none (s _ _ h) hp)]
  exact s _ _ h
theorem same_put {H H1 : Hp} {p : Addr} {o : HO} (s : Same H H1) (hp : H p = none) : Same H (upd H1 p o) := fun b u h => by
  rw [upd_ne (ne_of_none h hp)]
  exact s _ _ h
end Gy

namespace Gy
open PySem L2 PySem.Spec PyProof.Rows
open PySem.GyRX (ShowC)
/-- what was new since H1, as it is in H2, stands in H' -/
def Keeps (H1 H2 H' : Hp) : Prop := ∀ x o, H1 x = none → H2 x = some o → H' x = some o
theorem Keeps.refl (H1 H2 : Hp) : Keeps H1 H2 H2 := fun _ _ _ h => h
/-- v is the datum d, all of it new since H1, as of H2 -/
def Own (K : PySem.W.Frag) (H1 H2 : Hp) (v : V) (d : D) : Prop := ∀ H', Keeps H1 H2 H' → Rp K H' v d
def OwnAll (K : PySem.W.Frag) (H1 H2 : Hp) (vs : List V) (ds : List D) : Prop := ∀ H', Keeps H1 H2 H' → RpAll K H' vs ds
theorem Keeps.later {H1 H2 H3 H' : Hp} (s : Same H2 H3) (k : Keeps H1 H3 H') : Keeps H1 H2 H' := fun x o n h => k x o n (s _ _ h)
theorem Keeps.sooner {H0 H1 H2 H' : Hp} (s : Same H0 H1) (k : Keeps H0 H2 H') : Keeps H1 H2 H' := fun x o n h => k x o (by
  cases e : H0 x with
  | none => rfl
  | some u =>
    rw [s _ _ e] at n
    cases n) h
theorem Own.later {K : PySem.W.Frag} {H1 H2 H3 : Hp} {v : V} {d : D} (h : Own K H1 H2 v d) (s : Same H2 H3) : Own K H1 H3 v d := fun H' k => h H' (k.later s)
theorem Own.sooner {K : PySem.W.Frag} {H0 H1 H2 : Hp} {v : V} {d : D} (h : Own K H1 H2 v d) (s : Same H0 H1) : Own K H0 H2 v d := fun H' k => h H' (k.sooner s)
theorem OwnAll.later {K : PySem.W.Frag} {H1 H2 H3 : Hp} {v : List V} {d : List D} (h : OwnAll K H1 H2 v d) (s : Same H2 H3) : OwnAll K H1 H3 v d := fun H' k => h H' (k.later s)
theorem OwnAll.sooner {K : PySem.W.Frag} {H0 H1 H2 : Hp} {v : List V} {d : List D} (h : OwnAll K H1 H2 v d) (s : Same H0 H1) : OwnAll K H0 H2 v d := fun H' k => h H' (k.sooner s)
theorem OwnAll.cons {K : PySem.W.Frag} {H1 H2 : Hp} {v : V} {d : D} {vs : List V} {ds : List D} (h : Own K H1 H2 v d) (hs : OwnAll K H1 H2 vs ds) : OwnAll K H1 H2 (v :: vs) (d :: ds) := fun H' k => .cons (h H' k) (hs H' k)
theorem OwnAll.nil {K : PySem.W.Frag} {H1 H2 : Hp} : OwnAll K H1 H2 [] [] := fun _ _ => .nil
theorem OwnAll.len {K : PySem.W.Frag} {H1 H2 : Hp} {vs : List V} {ds : List D} (h : OwnAll K H1 H2 vs ds) : vs.length = ds.length := (h H2 (Keeps.refl _ _)).len
theorem RpAll.append {K : PySem.W.Frag} {H : Hp} : ∀ {vs ws : List V} {ds es : List D}, RpAll K H vs ds → RpAll K H ws es → RpAll K H (vs ++ ws) (ds ++ es)
  | _, _, _, _, .nil, h => h
  | _, _, _, _, .cons r rs, h => .cons r (RpAll.append rs h)
theorem OwnAll.append {K : PySem.W.Frag} {H1 H2 : Hp} {vs ws : List V} {ds es : List D} (h : OwnAll K H1 H2 vs ds) (h' : OwnAll K H1 H2 ws es) : OwnAll K H1 H2 (vs ++ ws) (ds ++ es) := fun H' k => (h H' k).append (h' H' k)
theorem Own.lst {K : PySem.W.Frag} {H1 H2 : Hp} {p : Addr} {vs : List V} {ds : List D} (h : OwnAll K H1 H2 vs ds) (np : H1 p = none) (np2 : H2 p = none) : Own K H1 (upd H2 p (.lst vs)) (.ref p) (.lst ds) := fun H' k =>
  .lst (k p _ np upd_same) (h H' (k.later fun b o e => by rw [upd_ne (ne_of_none e np2)]; exact e))
theorem Own.tup {K : PySem.W.Frag} {H1 H2 : Hp} {p : Addr} {vs : List V} {ds : List D} (h : OwnAll K H1 H2 vs ds) (np : H1 p = none) (np2 : H2 p = none) : Own K H1 (upd H2 p (.tup vs)) (.ref p) (.tup ds) := fun H' k =>
  .tup (k p _ np upd_same) (h H' (k.later fun b o e => by rw [upd_ne (ne_of_none e np2)]; exact e))
theorem Own.dic0 {K : PySem.W.Frag} {H : Hp} {p : Addr} (np : H p = none) : Own K H (upd H p (.dK [])) (.ref p) (.dic [] []) := fun H' k =>
  .dic (ks := []) (xs := []) (k p _ np upd_same) rfl .nil
theorem Own.dic1 {K : PySem.W.Frag} {H H2 : Hp} {p : Addr} {x : Str} {v : V} {d : D} (h : Own K (upd H p (.dK [])) H2 v d) (np : H p = none) : Own K H (upd H2 p (.dK (mergeK [] [(Sum.inr x, v)]))) (.ref p) (.dic [x] [d]) := fun H' k =>
  .dic (ks := [x]) (xs := [v]) (k p _ np upd_same) rfl (.cons (h H' fun y o n e => by
    have ne : y ≠ p := fun z => by rw [z, upd_same] at n; cases n
    rw [upd_ne ne] at n
    exact k y o n (by rw [upd_ne ne]; exact e)) .nil)
/-- members of what is own -/
theorem OwnAll.mem {K : PySem.W.Frag} {H1 H2 : Hp} {v : V} : ∀ {vs : List V} {ds : List D}, OwnAll K H1 H2 vs ds → v ∈ vs → ∃ d ∈ ds, Own K H1 H2 v d
  | [], _, _, m => absurd m List.not_mem_nil
  | x :: vs, ds, h, m => by
    cases ds with
    | nil =>
      have := h.len
      simp at this
    | cons d ds =>
      rcases List.mem_cons.mp m with e | m
      · refine ⟨d, List.mem_cons_self, fun H' k => ?_⟩
        have q := h H' k
        cases q with
        | cons r _ => rw [e]; exact r
      · obtain ⟨d', hd, ho⟩ := OwnAll.mem (vs := vs) (ds := ds) (fun H' k => by
          have q := h H' k
          cases q with
          | cons _ rs => exact rs) m
        exact ⟨d', List.mem_cons_of_mem _ hd, ho⟩
/-! ### written data -/
mutual
inductive Lit : Expr → D → Prop
  | non {j : Nat} {pos : Pos} : Lit (.Constant .none j pos) .non
  | bl {b : Bool} {j : Nat} {pos : Pos} : Lit (.Constant (.bool b) j pos) (.bl b)
  | int {i : Int} {j : Nat} {pos : Pos} : Lit (.Constant (.int i) j pos) (.int i)
  | str {x : Str} {j : Nat} {pos : Pos} : Lit (.Constant (.str x) j pos) (.str x)
  | neg {i : Int} {j : Nat} {pos pos' : Pos} : Lit (.UnaryOp .USub (.Constant (.int i) j pos) pos') (.int (-i))
  | pow {a b : Int} {j k : Nat} {p1 p2 pos : Pos} : CPow a b → Lit (.BinOp (.Constant (.int a) j p1) .Pow (.Constant (.int b) k p2) pos) (.int (a ^ b.toNat))
  | lst {es : List Expr} {ds : List D} {pos : Pos} : Lits es ds → ds.length ≤ 1000 → Lit (.List es pos) (.lst ds)
  | tup {es : List Expr} {ds : List D} {k : Nat} {pos : Pos} : Lits es ds → ds.length ≤ 1000 → Lit (.Tuple es k pos) (.tup ds)
  | dic0 {pos : Pos} : Lit (.Dict [] [] pos) (.dic [] [])
  | dic1 {x : Str} {e : Expr} {d : D} {j : Nat} {p pos : Pos} : Lit e d → Lit (.Dict [some (.Constant (.str x) j p)] [e] pos) (.dic [x] [d])
inductive Lits : List Expr → List D → Prop
  | nil : Lits [] []
  | cons {e : Expr} {es : List Expr} {d : D} {ds : List D} : Lit e d → Lits es ds → Lits (e :: es) (d :: ds)
end
def tLit (K : PySem.W.Frag) (d : D) : TE := fun _ H Q => ∀ v H', Same H H' → Own K H H' v d → Q v H'
def tLits (K : PySem.W.Frag) (ds : List D) : TA := fun _ H Q => ∀ vs H', Same H H' → OwnAll K H H' vs ds → Q vs H'
theorem PA.imp {X : Cx} {es : List Expr} {t t' : TA} (h : PA X es t) (k : ∀ σ H Q, t' σ H Q → t σ H Q) : PA X es t' := ⟨fun pos pins s σ H Q I q => h.run pos pins s σ H Q I (k _ _ _ q)⟩
theorem lit_const {X : Cx} {e : Expr} {v : V} {d : D} (h : PE X e (tC v)) (r : ∀ H, Rp X.K H v d) : PE X e (tLit X.K d) := PE.imp h fun σ H Q q => q v H (Same.refl H) fun H' _ => r H'
mutual
theorem pe_lit {X : Cx} (hs : ∀ (e : Expr) (es : List Expr) (d : D), Lit e d → starEach (e :: es) X.env = (false, eval e X.env) :: starEach es X.env) : ∀ {e : Expr} {d : D}, Lit e d → PE X e (tLit X.K d)
  | _, _, .non => lit_const pe_non fun _ => .non
  | _, _, .bl => lit_const pe_bl fun _ => .bl _
  | _, _, .int => lit_const pe_int fun _ => .int _
  | _, _, .str => lit_const pe_str fun _ => .str _
  | _, _, .neg => PE.imp (pe_un un_neg pe_int) fun σ H Q q => ⟨_, rfl, q _ H (Same.refl H) fun H' _ => .int _⟩
  | _, _, .pow h => PE.imp (pe_op op_pow pe_int pe_int) fun σ H Q q => ⟨_, _, rfl, rfl, h, q _ H (Same.refl H) fun H' _ => .int _⟩
  | _, _, .lst h hl => PE.imp (pe_lst (pa_lit hs h)) fun σ H Q q vs H' s o => ⟨by rw [o.len, sizeLine_eq]; omega, fun p np => q _ _ (same_new s np) (Own.lst o (s.free np) np)⟩
  | _, _, .tup h hl => PE.imp (pe_tup (pa_lit hs h)) fun σ H Q q vs H' s o => ⟨by rw [o.len, sizeLine_eq]; omega, fun p np => q _ _ (same_new s np) (Own.tup o (s.free np) np)⟩
  | _, _, .dic0 => PE.imp pe_dnewK fun σ H Q q p np => q _ _ (same_new (Same.refl H) np) (Own.dic0 np)
  | _, _, .dic1 h => PE.imp (pe_disp (pps_cons pe_str (pe_lit hs h) pps_nil) (by rfl) (by rfl) (fun z => by cases z) (by show 1 ≤ 15; decide)) fun σ H Q q p np v H2 s2 o2 => by
    have e2 := s2 p _ upd_same
    exact ⟨e2, [(Sum.inr _, v)], rfl, by show 1 ≤ 15; decide, q _ _ (same_put ((same_new (Same.refl H) np).trans s2) np) (Own.dic1 o2 np)⟩
theorem pa_lit {X : Cx} (hs : ∀ (e : Expr) (es : List Expr) (d : D), Lit e d → starEach (e :: es) X.env = (false, eval e X.env) :: starEach es X.env) : ∀ {es : List Expr} {ds : List D}, Lits es ds → PA X es (tLits X.K ds)
  | _, _, .nil => PA.imp pa_nil fun σ H Q q => q _ H (Same.refl H) OwnAll.nil
  | _, _, .cons h t => PA.imp (pa_cons (pe_lit hs h) (pa_lit hs t) (hs _ _ _ h)) fun σ H Q q v H1 s1 o1 vs H2 s2 o2 => q _ _ (s1.trans s2) (OwnAll.cons (o1.later s2) (o2.sooner s1))
end
theorem lit_star {X : Cx} : ∀ (e : Expr) (es : List Expr) (d : D), Lit e d → starEach (e :: es) X.env = (false, eval e X.env) :: starEach es X.env := fun e es d h => by
  cases h <;> rfl
end Gy

namespace Gy
open PySem L2 PySem.Spec PyProof.Rows
open PySem.GyRX (ShowC)
theorem Own.lst_inv {K : PySem.W.Frag} {H H' : Hp} {v : V} {ds : List D} (h : Own K H H' v (.lst ds)) : ∃ a xs, v = .ref a ∧ H a = none ∧ H' a = some (.lst xs) ∧ OwnAll K H H' xs ds := by
  have h0 := h (fun x => match H x with | none => H' x | some _ => none) (fun x o n e => by simp only [n]; exact e)
  cases h0 with
  | @lst a xs _ e r =>
    have na : H a = none := by
      cases q : H a with
      | none => rfl
      | some u => simp only [q] at e; cases e
    simp only [na] at e
    refine ⟨a, xs, rfl, na, e, fun H'' k => ?_⟩
    have e2 := k a _ na e
    have r2 := h H'' k
    cases r2 with
    | lst e3 r3 =>
      rw [e2] at e3
      cases e3
      exact r3
/-! ### the text's own data -/
def bodyAt (s : Stmt) (i : Nat) : Stmt := (defBody s).getD i (.Pass ⟨0, 0, 0, 0⟩)
def valOf : Stmt → Expr
  | .Assign _ v _ => v
  | .Return (some v) _ => v
  | _ => .Constant .none 0 ⟨0, 0, 0, 0⟩
def rhsOf : Expr → Expr
  | .BinOp _ _ r _ => r
  | e => e
def ts (s : Str) : D := .str s
def odd1 : List D := [.non, .bl true, .bl false, .int 0, .int 1, .int 2, .int 9, .int (-1), .int 10, .int 13, .int (10 ^ 39), .str "a", .str "p", .str "row", .str "kind", .str "", .str "A", .str "abcdefghi", .str "a b"]
def odd2 : List D := [.tup [], .lst [], .dic [] [], .tup [.str "a"], .lst [.str "a"], .tup [.non], .tup [.str "a", .int 0], .tup [.str "p", .int 0], .tup [.str "p", .bl true], .tup [.str "p", .int (-1)], .dic ["a"] [.int 0], .tup [.tup []]]
def odd3 : List D := [.tup [.str "row", .str "a", .int 1, .int 9], .tup [.str "kind", .str "p", .int 1, .int 1, .int 9], .tup [.str "row", .str "a", .int 5, .int 9], .tup [.str "row", .str "a", .int 1, .int 10], .lst [.lst [.str "a"]]]
def odd4 : List D := [.tup [.str "kind", .str "p", .int 0, .int 1, .int 9], .tup [.str "kind", .str "p", .int 10, .int 1, .int 9], .tup [.str "row", .str "a", .int 1, .int 1, .int 9], .lst [.str "row", .str "a", .int 1, .int 9]]
def odd5 : List D := [.tup [.str "row", .str "a", .bl true, .int 9], .tup [.str "kind", .str "a", .int 1, .int 9]]
local macro_rules | `(tactic| walk_at "lit") => `(tactic| (repeat' (first
  | exact Lits.nil | refine Lits.cons ?_ ?_ | exact Lit.non | exact Lit.bl | exact Lit.int | exact Lit.str | exact Lit.neg | exact Lit.pow (by show (0 : Int) ≤ 39 ∧ (39 : Int) ≤ 1000000 ∧ (10 : Int).natAbs < 2 ^ 64; decide) | exact Lit.dic0 | refine Lit.dic1 ?_ | refine Lit.lst ?_ ?_ | refine Lit.tup ?_ ?_ | exact Nat.le_of_ble_eq_true rfl)))
def odds : List D := (((odd1 ++ odd2) ++ odd3) ++ odd4) ++ odd5
/-- few and short -/
def D.top : D → Bool
  | .exc _ _ => false
  | _ => true
def D.few (d : D) : Bool := (d.ok && d.top) && (decide (d.shown.length ≤ 20000) && decide (d.depth ≤ 10))
theorem odds_few : odds.all D.few = true := by decide +kernel
theorem odds_len : odds.length = 42 := by decide +kernel
def spOdd (K : PySem.W.Frag) : Sp := fun vs H Q _ => ∃ b c, vs = [.ref b] ∧ BagC c H b ∧ ∀ (v : V) (H' : Hp), Ext b H H' → BagC c H' b → (∃ d, Own K H H' v d ∧ d.few = true) → Q v H'
theorem ext_same {b : Addr} {H H' : Hp} (s : Same H H') : Ext b H H' := fun a o _ h => s a o h
theorem BagC.same {b c : Addr} {H H' : Hp} (h : BagC c H b) (s : Same H H') : BagC c H' b := by
  obtain ⟨x0, x1, x2, ns, h⟩ := h
  exact ⟨x0, x1, x2, ns, s _ _ h.hb, s _ _ h.hc, h.p0, h.p1, h.q1, h.p2, h.pc, h.lc⟩
theorem Own.ext {K : PySem.W.Frag} {b : Addr} {H1 H2 H3 : Hp} {v : V} {d : D} {o : HO} (h : Own K H1 H2 v d) (hb : H1 b = some o) (s : Ext b H2 H3) : Own K H1 H3 v d := fun H' k => h H' fun x u n e => k x u n (s x u (fun z => by rw [z, hb] at n; cases n) e)
/-- a list of this call's own, with what it holds -/
def Acc (K : PySem.W.Frag) (H H1 : Hp) (v : V) (ds : List D) : Prop := Same H H1 ∧ ∃ a xs, v = .ref a ∧ H a = none ∧ H1 a = some (.lst xs) ∧ OwnAll K H H1 xs ds
theorem Acc.cat {K : PySem.W.Frag} {H H1 H2 : Hp} {v u : V} {ds es : List D} {Q : V → Hp → Prop} (h : Acc K H H1 v ds) (hl : ds.length + es.length ≤ 1000) (s : Same H1 H2) (o : Own K H1 H2 u (.lst es))
    (k : ∀ v' H3, Acc K H H3 v' (ds ++ es) → Q v' H3) : rCat v u H2 Q := by
  obtain ⟨s0, a, xs, rfl, na, ea, w⟩ := h
  obtain ⟨b, zs, rfl, nb, eb, wb⟩ := o.lst_inv
  refine ⟨a, b, xs, zs, rfl, rfl, s _ _ ea, eb, by rw [w.len, wb.len, sizeLine_eq]; omega, fun p np => k _ _ ?_⟩
  have st := s0.trans s
  have nu : Same H2 (upd H2 p (.lst (xs ++ zs))) := same_new (Same.refl H2) np
  exact ⟨st.trans nu, p, _, rfl, st.free np, upd_same, ((w.later s).append (wb.sooner s0)).later nu⟩
section
variable {P : Program} {w : World} {K : PySem.W.Frag} {mg : Str → Option Value} {base : Heap}
end
end Gy

/-! Sets of nested tuples of texts and whole numbers. -/
namespace Ns
open PySem PySem.Spec PyProof.Rows L2
section
variable {P : Program} {w : World}
/-- such a value is no class statement -/
def NoCls (P : Program) (w : World) (n : Nat) (s : Shared) (v : Value) : Prop := ∀ (A : Around) (E : Value → Shared → Prop) (Q : Bool → Shared → Prop), Q false s → wpAny (model P w) A (ofAClassStatement n v) Q E s
/-- it can be asked whether its hash goes by value -/
def ByVal (P : Program) (w : World) (n : Nat) (s : Shared) (v : Value) : Prop := ∀ (A : Around) (E : Value → Shared → Prop) (Q : Bool → Shared → Prop), (∀ b, Q b s) → wpAny (model P w) A (hashByValue n v) Q E s
theorem noCls_tup {n m : Nat} {s : Shared} {a : Addr} {o : Obj} {vs : Array Value} (ho : s.heap.get? a = some o) (hc : o.cls = .type "tuple") (hd : o.data = .seq vs m) (hv : ∀ v ∈ vs.toList, NoCls P w n s v) : NoCls P w (n + 1) s (.ref a) := fun A E Q q => by
  have ty : s.TypeIs (.ref a) "tuple" := ⟨o, ho, hc⟩
  unfold ofAClassStatement
  refine wpAny_bind (wpAny_typeOf ty ?_)
  dsimp only
  have e : (("tuple" : String) == "tuple") = true := by decide
  simp only [e, if_true, Bool.not_true, Bool.false_eq_true, if_false]
  try refine wpAny_bind (wpAny_pure ?_)
  try simp only [Bool.not_true, Bool.false_eq_true, if_false]
  show wpAny _ _ (seqItems? (.ref a) >>= _) _ _ s
  refine wpAny_bind (wpAny_seqItems ho hd ?_)
  dsimp only
  refine wpAny_bind ?_
  show wpAny _ _ (forIn vs _ _) _ _ s
  rw [← Array.forIn_toList]
  refine wpAny_forIn_list _ (fun left r s1 => (r.1 = none ∧ s1 = s) ∧ ∀ v ∈ left, NoCls P w n s v) _ (fun v left r s1 z => ?_) (fun r s1 z => ?_) _ _ ⟨⟨rfl, rfl⟩, hv⟩
  · obtain ⟨⟨hr, rfl⟩, all⟩ := z
    refine wpAny_bind (all v List.mem_cons_self _ _ _ ?_)
    simp only [Bool.false_eq_true, if_false]
    exact wpAny_pure ⟨⟨rfl, rfl⟩, fun u m => all u (List.mem_cons_of_mem _ m)⟩
  · obtain ⟨⟨hr, rfl⟩, _⟩ := z
    obtain ⟨r1, r2⟩ := r
    simp only at hr
    subst hr
    exact wpAny_pure q
theorem byVal_tup {n m : Nat} {s : Shared} {a : Addr} {o : Obj} {vs : Array Value} (ho : s.heap.get? a = some o) (hc : o.cls = .type "tuple") (hd : o.data = .seq vs m) (hv : ∀ v ∈ vs.toList, ByVal P w n s v) : ByVal P w (n + 1) s (.ref a) := fun A E Q q => by
  have ty : s.TypeIs (.ref a) "tuple" := ⟨o, ho, hc⟩
  unfold hashByValue
  refine wpAny_bind (wpAny_specialOf ty F.slot_tuple_hash.lookup ?_)
  show wpAny _ _ (seqItems? (.ref a) >>= _) _ _ s
  refine wpAny_bind (wpAny_seqItems ho hd ?_)
  refine wpAny_bind ?_
  show wpAny _ _ (forIn vs _ _) _ _ s
  rw [← Array.forIn_toList]
  refine wpAny_forIn_list _ (fun left r s1 => (r.1 = none ∧ s1 = s) ∧ ∀ v ∈ left, ByVal P w n s v) _ (fun v left r s1 z => ?_) (fun r s1 z => ?_) _ _ ⟨⟨rfl, rfl⟩, hv⟩
  · obtain ⟨⟨hr, rfl⟩, all⟩ := z
    refine wpAny_bind (all v List.mem_cons_self _ _ _ fun b => ?_)
    cases b with
    | true =>
      simp only [Bool.not_true, Bool.false_eq_true, if_false]
      exact wpAny_pure ⟨⟨rfl, rfl⟩, fun u m => all u (List.mem_cons_of_mem _ m)⟩
    | false =>
      simp only [Bool.not_false, if_true]
      exact wpAny_pure (wpAny_pure (q false))
  · obtain ⟨⟨hr, rfl⟩, _⟩ := z
    obtain ⟨r1, r2⟩ := r
    simp only at hr
    subst hr
    exact wpAny_pure (q true)
mutual
theorem noCls_key : ∀ (k : NestedKey) (v : Value) (n : Nat) (s : Shared), NestedIs s.heap k v → k.depth ≤ n → NoCls P w n s v
  | .none, _, n, s, x, _ => by cases x; intro A E Q q; cases n <;> exact wpAny_pure q
  | .num i, _, n, s, x, _ => by cases x <;> (intro A E Q q; cases n <;> exact wpAny_pure q)
  | .text y, _, n, s, x, _ => by cases x; intro A E Q q; cases n <;> exact wpAny_pure q
  | .tup ks, _, n, s, x, hn => by
    cases x with
    | tup hg hc hd hk =>
      simp only [NestedKey.depth] at hn
      cases n with
      | zero => omega
      | succ n => exact noCls_tup hg hc hd (noCls_keys ks _ n s hk (by omega))
theorem noCls_keys : ∀ (ks : List NestedKey) (vs : List Value) (n : Nat) (s : Shared), NestedAll s.heap ks vs → NestedKey.depthAll ks ≤ n → ∀ v ∈ vs, NoCls P w n s v
  | [], _, n, s, x, _, v, hv => by cases x; cases hv
  | k :: ks, _, n, s, x, hn, v, hv => by
    cases x with
    | cons x1 x2 =>
      simp only [NestedKey.depthAll] at hn
      rcases List.mem_cons.mp hv with e | hv
      · rw [e]; exact noCls_key k _ n s x1 (by omega)
      · exact noCls_keys ks _ n s x2 (by omega) v hv
end
mutual
theorem byVal_key : ∀ (k : NestedKey) (v : Value) (n : Nat) (s : Shared), NestedIs s.heap k v → k.depth ≤ n → ByVal P w n s v
  | .none, _, n, s, x, _ => by cases x; intro A E Q q; cases n <;> exact wpAny_pure (q true)
  | .num i, _, n, s, x, _ => by cases x <;> (intro A E Q q; cases n <;> exact wpAny_pure (q true))
  | .text y, _, n, s, x, _ => by cases x; intro A E Q q; cases n <;> exact wpAny_pure (q false)
  | .tup ks, _, n, s, x, hn => by
    cases x with
    | tup hg hc hd hk =>
      simp only [NestedKey.depth] at hn
      cases n with
      | zero => omega
      | succ n => exact byVal_tup hg hc hd (byVal_keys ks _ n s hk (by omega))
theorem byVal_keys : ∀ (ks : List NestedKey) (vs : List Value) (n : Nat) (s : Shared), NestedAll s.heap ks vs → NestedKey.depthAll ks ≤ n → ∀ v ∈ vs, ByVal P w n s v
  | [], _, n, s, x, _, v, hv => by cases x; cases hv
  | k :: ks, _, n, s, x, hn, v, hv => by
    cases x with
    | cons x1 x2 =>
      simp only [NestedKey.depthAll] at hn
      rcases List.mem_cons.mp hv with e | hv
      · rw [e]; exact byVal_key k _ n s x1 (by omega)
      · exact byVal_keys ks _ n s x2 (by omega) v hv
end
end
/-- the tuple at b is the key k -/
def Key (h : Heap) (k : NestedKey) (b : Addr) : Prop := NestedIs h k (.ref b) ∧ k.depth ≤ 8
theorem Key.at {h h' : Heap} {k : NestedKey} {b : Addr} (x : Key h k b) (s : ∀ c o vs n, h.get? c = some o → o.data = .seq vs n → h'.get? c = some o) : Key h' k b := ⟨NestedIs.at s _ _ x.1, x.2⟩
/-- what isn't a set stays -/
theorem Key.but {h h' : Heap} {k : NestedKey} {a b : Addr} {o : Obj} {es : Array (Int × Value)} {ep : Nat} {t : SetTable} (x : Key h k b) (ho : h.get? a = some o) (hd : o.data = .set es ep t) (hs : Heap.SameBut a h h') : Key h' k b :=
  x.at fun c u vs n hc hu => (hs.2 c (fun z => by
    rw [z, ho] at hc
    cases hc
    rw [hd] at hu
    cases hu)).trans hc
abbrev hsh (w : World) (k : NestedKey) : Int := k.hash w
section
variable {P : Program} {w : World} {A : Around} {E : Value → Shared → Prop} {s : Shared}
/-- a search among keys shows nothing -/
theorem seen_keys {k : NestedKey} {b : Addr} {Q : Bool → Shared → Prop} (hk : Key s.heap k b) {ys : List Value} (hy : ∀ y ∈ ys, ∃ k' c, y = Value.ref c ∧ Key s.heap k' c) (q : Q false s) : wpAny (model P w) A (searchCouldBeSeen (.ref b) ys) Q E s := by
  unfold searchCouldBeSeen
  refine wpAny_bind ?_
  refine wpAny_forIn_list _ (fun left r s1 => (r.1 = none ∧ s1 = s) ∧ ∀ y ∈ left, ∃ k' c, y = Value.ref c ∧ Key s.heap k' c) _ (fun v left r s1 z => ?_) (fun r s1 z => ?_) _ _ ⟨⟨rfl, rfl⟩, hy⟩
  · obtain ⟨⟨hr, rfl⟩, all⟩ := z
    obtain ⟨k', c, rfl, hc⟩ := all v List.mem_cons_self
    have more : ∀ y ∈ left, ∃ k' c, y = Value.ref c ∧ Key s1.heap k' c := fun u m => all u (List.mem_cons_of_mem _ m)
    dsimp only
    by_cases hv : (b == c || (carriedByValue (.ref b) && carriedByValue (.ref c))) = true
    · exact wp_if_pos hv (wpAny_pure ⟨⟨rfl, rfl⟩, more⟩)
    · refine wp_if_neg hv ?_
      refine wpAny_bind (quiet_key k _ 8 s1 hk.1 hk.2 _ _ _ ?_)
      simp only [Bool.not_true, Bool.false_eq_true, if_false]
      refine wpAny_bind (quiet_key k' _ 8 s1 hc.1 hc.2 _ _ _ ?_)
      simp only [Bool.not_true, Bool.false_eq_true, if_false]
      refine wpAny_bind (noCls_key k _ 8 s1 hk.1 hk.2 _ _ _ ?_)
      simp only [Bool.false_eq_true, if_false]
      refine wpAny_bind (noCls_key k' _ 8 s1 hc.1 hc.2 _ _ _ ?_)
      simp only [Bool.false_eq_true, if_false]
      exact wpAny_pure ⟨⟨rfl, rfl⟩, more⟩
  · obtain ⟨⟨hr, rfl⟩, _⟩ := z
    obtain ⟨r1, r2⟩ := r
    simp only at hr
    subst hr
    exact wpAny_pure q
end
end Ns

namespace Ns
open PySem PySem.Spec PyProof.Rows L2
/-- what a set's table holds for keys at addresses -/
def ent (w : World) (p : Addr × NestedKey) : Int × Value := (hsh w p.2, Value.ref p.1)
structure NSet (w : World) (h : Heap) (a : Addr) (L : List (Addr × NestedKey)) (es : Array (Int × Value)) (ep : Nat) (t : SetTable) : Prop where
  obj : ∃ o, h.get? a = some o ∧ o.ExactSet ∧ o.data = .set es ep t
  ents : es.toList = L.map (ent w)
  tab : TabOk t (L.map fun p => hsh w p.2)
  once : (L.map (·.2)).Nodup
  keys : ∀ p ∈ L, Key h p.2 p.1
  led : w.params.followText "set-order" = true ∨ t.led = true
  room : L.length * 5 < t.mask * 3
  few : L.length < 64
section
variable {P : Program} {w : World} {A : Around} {E : Value → Shared → Prop} {s : Shared} {h : Heap} {a : Addr} {L : List (Addr × NestedKey)} {es : Array (Int × Value)} {ep : Nat} {t : SetTable}
theorem NSet.size (R : NSet w h a L es ep t) : es.size = L.length := by
  have e := congrArg List.length R.ents
  rwa [Array.length_toList, List.length_map] at e
theorem NSet.place (R : NSet w h a L es ep t) : t.place.size = L.length := by
  have e := R.tab.sz
  rwa [List.length_map] at e
theorem fits_of {t : SetTable} {n : Nat} (hd : t.dummies = #[]) (h1 : t.place.size = n) (h2 : n ≤ t.mask) : t.fits n = true := by
  unfold SetTable.fits SetTable.fill
  rw [hd, Bool.and_eq_true, beq_iff_eq, decide_eq_true_eq]
  exact ⟨h1, by show t.place.size + 0 ≤ t.mask; omega⟩
theorem NSet.fits (R : NSet w h a L es ep t) : t.fits es.size = true := by
  have h1 := R.size
  have h2 := R.place
  have h3 := R.room
  exact fits_of R.tab.dm (by omega) (by omega)
theorem NSet.at (R : NSet w h a L es ep t) {i : Nat} {p : Addr × NestedKey} (e : L[i]? = some p) : es[i]? = some (ent w p) := by
  rw [← Array.getElem?_toList, R.ents, List.getElem?_map, e]
  rfl
theorem NSet.stays (R : NSet w h a L es ep t) : ¬ t.gaveWay = true := by
  unfold SetTable.gaveWay
  rw [mask_odd R.tab.mok]
  decide
/-- the first step of a way -/
abbrev step0 (m : Nat) (h : Int) : SetTable.Probe := runAt m (SetTable.bits h % (m + 1)) (SetTable.bits h)
theorem no_dummy (m : Nat) : ∀ (n : Nat) (p : SetTable.Probe), p.dummy = none → (nth m p n).dummy = none
  | 0, p, e => e
  | n + 1, p, e => no_dummy m n (adv m p) (by unfold adv; split <;> exact e)
/-- the search on its way, from step c on; K: the first empty slot -/
theorem seek (R : NSet w s.heap a L es ep t) {x : Addr} {k : NestedKey} (hx : Key s.heap k x) (hu : A.units + 8 < cLine) {K : Nat} (lim : K < 10 * SetTable.turns t.mask)
    (free : way t.mask (hsh w k) K ∉ t.place.toList) (full : ∀ c, c < K → way t.mask (hsh w k) c ∈ t.place.toList) {Q : SetFound → Shared → Prop}
    (there : k ∈ L.map (·.2) → Q (.there none) s) (none' : k ∉ L.map (·.2) → Q (.free (way t.mask (hsh w k) K) false) s) :
    ∀ (f c : Nat) (stand : Option SetTable.Probe), stand.getD (t.probeStart (hsh w k)) = nth t.mask (step0 t.mask (hsh w k)) c → c ≤ K → K - c < f →
      (∀ (i : Nat) p, L[i]? = some p → p.2 = k → ∃ d, c ≤ d ∧ d < K ∧ t.place.toList[i]? = some (way t.mask (hsh w k) d)) →
      wpAny (model P w) A (setSearchFrom a (.ref x) (hsh w k) true f stand) Q E s := by
  obtain ⟨o, ho, hex, hd⟩ := R.obj
  intro f
  induction f with
  | zero => exact fun c st _ _ hf => absurd hf (Nat.not_lt_zero _)
  | succ f ih =>
    intro c stand hst hc hf ahead
    rw [setSearchFrom_succ]
    refine wpAny_bind (wpAny_setState_of ho hd R.fits ?_)
    dsimp only
    refine wp_if_neg R.stays ?_
    try refine wpAny_bind (wpAny_pure ?_)
    generalize hp0 : nth t.mask (step0 t.mask (hsh w k)) c = p0 at hst
    have go : ∀ q, nth t.mask p0 q = nth t.mask (step0 t.mask (hsh w k)) (c + q) := fun q => by rw [← hp0, ← nth_add]
    have goj : ∀ q, (nth t.mask p0 q).j = way t.mask (hsh w k) (c + q) := fun q => congrArg SetTable.Probe.j (go q)
    have nd : p0.dummy = none := by rw [← hp0]; exact no_dummy _ _ _ rfl
    have toK : c + (K - c) = K := by omega
    have hashes : ∀ (i : Nat) p, L[i]? = some p → (fun i => (es[i]?.map (·.1)).getD 0) i = hsh w p.2 := fun i p hp => by
      show (es[i]?.map (·.1)).getD 0 = _
      rw [R.at hp]
      rfl
    have spec := go_spec t R.tab.ris R.tab.dm (fun i => (es[i]?.map (·.1)).getD 0) (hsh w k) (10 * SetTable.turns t.mask) (K - c) p0 nd (by omega)
      (fun q hq => by rw [goj]; exact full _ (by omega)) (by rw [goj, toK]; exact free)
    rcases spec with ⟨q, i, hq, hi, hh, before, hpr⟩ | ⟨before, hpr⟩
    · have hpr' : t.probe (fun i => (es[i]?.map (·.1)).getD 0) (hsh w k) (stand.getD (t.probeStart (hsh w k))) = some (.candidate (way t.mask (hsh w k) (c + q)) i (nth t.mask (step0 t.mask (hsh w k)) (c + (q + 1)))) := by
        rw [hst, ← goj, ← go]
        exact hpr
      rw [hpr']
      dsimp only
      rw [goj] at hi
      have il : i < L.length := by
        have h1 := (List.getElem?_eq_some_iff.mp hi).1
        rw [Array.length_toList, R.place] at h1
        exact h1
      obtain ⟨p, hp⟩ : ∃ p, L[i]? = some p := ⟨_, List.getElem?_eq_getElem il⟩
      have mem := List.mem_of_getElem? hp
      have kp := R.keys p mem
      have live : t.slot (way t.mask (hsh w k) (c + q)) = .live i := slot_live R.tab.ris hi
      have rest : wpAny (model P w) A (searchRest a (.ref x) (hsh w k) true f es t (way t.mask (hsh w k) (c + q)) i (nth t.mask (step0 t.mask (hsh w k)) (c + (q + 1)))) Q E s := by
        unfold searchRest
        rw [R.at hp]
        unfold ent
        dsimp only
        refine wpAny_bind (wpAny_holding ((nestedKind P w).eqBool (x := p.2) (y := k) hu kp hx ?_))
        refine wpAny_bind (wpAny_setState_of ho hd R.fits ?_)
        dsimp only
        by_cases same : p.2 = k
        · exact wp_if_pos (by simp [same]) (wpAny_pure (there (List.mem_map.mpr ⟨p, mem, same⟩)))
        · refine wp_if_neg (by simp [same]) ?_
          try refine wpAny_bind (wpAny_pure ?_)
          rw [sameMem]
          dsimp only
          simp only [if_true, live, R.at hp, ent]
          refine wpAny_bind (wpAny_isSame_ref_self (wpAny_bind (wpAny_pure ?_)))
          simp only [if_true]
          refine wp_if_neg (by simp [same]) ?_
          refine ih (c + (q + 1)) _ rfl (by omega) (by omega) fun i0 r h0 hk0 => ?_
          obtain ⟨d, d1, d2, d3⟩ := ahead i0 r h0 hk0
          refine ⟨d, ?_, d2, d3⟩
          rcases Nat.lt_trichotomy d (c + q) with z | z | z
          · exact absurd ((hashes i0 r h0).trans (congrArg (hsh w) hk0)) (before (d - c) i0 (by omega) (by rw [goj, show c + (d - c) = d by omega]; exact d3))
          · rw [z] at d3
            have e := slot_live R.tab.ris d3
            rw [live] at e
            injection e with e
            rw [← e, hp] at h0
            cases h0
            exact absurd hk0 same
          · omega
      by_cases hl : t.led = true
      · refine wp_if_neg (by simp [hl]) ?_
        try refine wpAny_bind (wpAny_pure ?_)
        exact rest
      · refine wp_if_pos (by simp [hl]) ?_
        refine wpAny_bind (seen_keys hx (fun y hy => ?_) ?_)
        · obtain ⟨u, hu1, rfl⟩ := List.mem_map.mp hy
          have hu2 : u ∈ es ∧ u.1 = hsh w k := by simpa using hu1
          have hu3 : u ∈ es.toList := by simpa using hu2.1
          rw [R.ents] at hu3
          obtain ⟨r, hr, rfl⟩ := List.mem_map.mp hu3
          exact ⟨r.2, r.1, rfl, R.keys r hr⟩
        · refine wp_if_neg (by decide) ?_
          try refine wpAny_bind (wpAny_pure ?_)
          exact rest
    · have hpr' : t.probe (fun i => (es[i]?.map (·.1)).getD 0) (hsh w k) (stand.getD (t.probeStart (hsh w k))) = some (.empty (way t.mask (hsh w k) K) none) := by
        have e := goj (K - c)
        rw [toK] at e
        rw [hst, ← e]
        exact hpr
      rw [hpr']
      dsimp only
      refine wpAny_pure (none' fun hm => ?_)
      obtain ⟨r, hr, hk0⟩ := List.mem_map.mp hm
      obtain ⟨i0, h0⟩ := List.getElem?_of_mem hr
      obtain ⟨d, d1, d2, d3⟩ := ahead i0 r h0 hk0
      exact before (d - c) i0 (by omega) (by rw [goj, show c + (d - c) = d by omega]; exact d3) ((hashes i0 r h0).trans (congrArg (hsh w) hk0))
/-- the whole search -/
theorem seek_all (R : NSet w s.heap a L es ep t) {x : Addr} {k : NestedKey} (hx : Key s.heap k x) (hu : A.units + 8 < cLine) {Q : SetFound → Shared → Prop} (there : k ∈ L.map (·.2) → Q (.there none) s)
    (none' : ∀ K, k ∉ L.map (·.2) → way t.mask (hsh w k) K ∉ t.place.toList → (∀ c, c < K → way t.mask (hsh w k) c ∈ t.place.toList) → Q (.free (way t.mask (hsh w k) K) false) s) :
    wpAny (model P w) A (setSearch a (.ref x) (hsh w k) true) Q E s := by
  have rm := R.room
  obtain ⟨K, lim, free, full⟩ := R.tab.first (by rw [List.length_map]; omega) (hsh w k)
  have big : K < 100000 := by
    have : 10 * SetTable.turns t.mask ≤ 1420 := by
      unfold SetTable.turns
      rcases R.tab.mok with e | e | e <;> omega
    omega
  unfold setSearch
  refine seek R hx hu lim free full there (fun hn => none' K hn free full) 100000 0 none rfl (Nat.zero_le _) (by omega) fun i p hp hk => ?_
  have il : i < t.place.toList.length := by
    rw [Array.length_toList, R.place]
    exact (List.getElem?_eq_some_iff.mp hp).1
  have hj := List.getElem?_eq_getElem il
  obtain ⟨c, hc, e⟩ := R.tab.before free (show (L.map fun p => hsh w p.2)[i]? = some (hsh w k) by rw [List.getElem?_map, hp, ← hk]; rfl) hj
  exact ⟨c, Nat.zero_le _, hc, by rw [hj, e]⟩
end
end Ns

namespace Ns
open PySem PySem.Spec PyProof.Rows L2
theorem perm_back {α β : Type} (f : α → β) {rs : List β} {ms : List β} (h : rs.Perm ms) : ∀ {L : List α}, ms = L.map f → ∃ L2 : List α, L2.Perm L ∧ rs = L2.map f := by
  induction h with
  | nil =>
    intro L e
    cases L with
    | nil => exact ⟨[], .refl _, rfl⟩
    | cons _ _ => cases e
  | cons x _ ih =>
    intro L e
    cases L with
    | nil => cases e
    | cons y L =>
      rw [List.map_cons] at e
      injection e with e1 e2
      obtain ⟨L2, p, q⟩ := ih e2
      exact ⟨y :: L2, p.cons y, by rw [List.map_cons, ← q, e1]⟩
  | swap x y l =>
    intro L e
    match L, e with
    | u :: v :: L, e =>
      rw [List.map_cons, List.map_cons] at e
      injection e with e1 e2
      injection e2 with e2 e3
      exact ⟨v :: u :: L, .swap u v L, by rw [List.map_cons, List.map_cons, e1, e2, e3]⟩
  | trans _ _ ih1 ih2 =>
    intro L e
    obtain ⟨L2, p2, q2⟩ := ih2 e
    obtain ⟨L3, p3, q3⟩ := ih1 q2
    exact ⟨L3, p3.trans p2, q3⟩
/-- picking by places that are a permutation -/
theorem pick_perm {α : Type} (es : List α) : (List.range es.length).filterMap (fun i => es[i]?) = es := by
  have up : ∀ n, n ≤ es.length → (List.range n).filterMap (fun i => es[i]?) = es.take n := by
    intro n
    induction n with
    | zero => intro _; rfl
    | succ n ih =>
      intro hn
      rw [List.range_succ, List.filterMap_append, ih (by omega), List.take_succ, List.getElem?_eq_getElem hn, List.filterMap_cons_some (List.getElem?_eq_getElem hn)]
      rfl
  rw [up _ (Nat.le_refl _), List.take_length]
theorem pick_fst {es : List (Int × Value)} : ∀ (l : List Nat), (∀ i ∈ l, i < es.length) → (l.filterMap (fun i => es[i]?)).map (·.1) = l.map fun i => ((es.map (·.1))[i]?).getD 0
  | [], _ => rfl
  | i :: l, h => by
    have hi := h i List.mem_cons_self
    rw [List.filterMap_cons_some (List.getElem?_eq_getElem hi), List.map_cons, List.map_cons, pick_fst l fun j hj => h j (List.mem_cons_of_mem _ hj), List.getElem?_map, List.getElem?_eq_getElem hi]
    rfl
section
variable {P : Program} {w : World} {A : Around} {E : Value → Shared → Prop} {s : Shared} {h : Heap} {a : Addr} {L : List (Addr × NestedKey)} {es : Array (Int × Value)} {ep : Nat} {t : SetTable}
/-- all but the object and the room: what a table that is just about to be laid anew is -/
theorem relay {o : Obj} (ho : s.heap.get? a = some o) (hex : o.ExactSet) (hd : o.data = .set es ep t) (ents : es.toList = L.map (ent w)) (pl : t.place.size = es.size) (dm : t.dummies = #[]) (fill : es.size ≤ t.mask)
    (once : (L.map (·.2)).Nodup) (keys : ∀ p ∈ L, Key s.heap p.2 p.1) (led : w.params.followText "set-order" = true ∨ t.led = true) (few : L.length < 64) {wanted M : Nat}
    (size : SetTable.sizeAbove wanted - 1 = M) (ok : MaskOk M) (small : SetTable.sizeAbove wanted ≤ 128) (room : L.length * 5 < M * 3) {Q : Unit → Shared → Prop}
    (k : ∀ h' L' es' ep' t', Heap.SameBut a s.heap h' → NSet w h' a L' es' ep' t' → L'.Perm L → Q () { s with heap := h' }) : wpAny (model P w) A (setRelay a wanted) Q E s := by
  have sz : es.size = L.length := by
    have e := congrArg List.length ents
    rwa [Array.length_toList, List.length_map] at e
  obtain ⟨t', order, re, pm, T, tm, tl, _, td⟩ := relaid_ok t (hs := es.map (·.1)) (wanted := wanted) size ok (by rw [Array.size_map, sz]; omega)
  rw [Array.size_map] at pm
  have el : es.toList.length = es.size := Array.length_toList
  have inr : ∀ i ∈ order.toList, i < es.toList.length := fun i hi => by rw [el]; exact List.mem_range.mp (pm.mem_iff.mp hi)
  have picked : (order.filterMap (es[·]?)).toList = order.toList.filterMap fun i => es.toList[i]? := by
    rw [Array.toList_filterMap]
    congr 1
    funext i
    rw [Array.getElem?_toList]
  have pp : (order.filterMap (es[·]?)).toList.Perm es.toList := by
    rw [picked]
    have e := pm.filterMap fun i => es.toList[i]?
    rwa [← el, pick_perm] at e
  obtain ⟨L2, p2, q2⟩ := perm_back (ent w) pp ents
  have hf : (L2.map fun p => hsh w p.2) = order.toList.map fun i => (es.map (·.1)).getD i 0 := by
    have e1 : (L2.map fun p => hsh w p.2) = (order.filterMap (es[·]?)).toList.map (·.1) := by
      rw [q2, List.map_map]
      rfl
    rw [e1, picked, pick_fst _ inr]
    refine List.map_congr_left fun i _ => ?_
    rw [Array.getD_eq_getD_getElem?, ← Array.getElem?_toList, Array.toList_map]
  rw [← hf] at T
  have sz2 : (order.filterMap (es[·]?)).size = es.size := by
    have e := pp.length_eq
    rwa [Array.length_toList, Array.length_toList] at e
  rw [setRelay_eq]
  refine wpAny_bind (wpAny_setState_of ho hd (fits_of dm pl fill) ?_)
  dsimp only
  refine wp_if_neg (by rw [sizeLine_eq]; omega) ?_
  try refine wpAny_bind (wpAny_pure ?_)
  rw [re]
  dsimp only
  refine wpAny_bind ?_
  refine wp_if_neg (by rw [sz2]; simp) ?_
  try refine wpAny_bind (wpAny_pure ?_)
  refine wpAny_pure ?_
  dsimp only
  refine wpAny_storeSet_of ho hd ?_ (by rw [sz2, sz, sizeLine_eq]; omega)
  have sb : Heap.SameBut a s.heap (s.heap.update a (Obj.putSet (order.filterMap (es[·]?)) t')) := Heap.SameBut.update ..
  refine k _ L2 (order.filterMap (es[·]?)) (ep + 1) t' sb {
    obj := ⟨_, store_at ho hd, ⟨hex.1, hex.2.1, hex.2.2⟩, rfl⟩
    ents := q2
    tab := T
    once := (p2.map (·.2)).nodup_iff.mpr once
    keys := fun p hp => (keys p (p2.mem_iff.mp hp)).but ho hd sb
    led := by rw [tl]; exact led
    room := by rw [p2.length_eq, tm]; exact room
    few := by rw [p2.length_eq]; exact few } p2
/-- one key put in -/
theorem put (R : NSet w s.heap a L es ep t) {x : Addr} {k : NestedKey} (hx : Key s.heap k x) (hu : A.units + 8 < cLine) (more : L.length + 1 < 64) {Q : Bool → Shared → Prop}
    (q : ∀ b h' L' es' ep' t', Heap.SameBut a s.heap h' → NSet w h' a L' es' ep' t' → (k ∈ L.map (·.2) → L' = L) → (k ∉ L.map (·.2) → L'.Perm ((x, k) :: L)) → Q b { s with heap := h' }) :
    wpAny (model P w) A (setAddHashed a (.ref x) (hsh w k)) Q E s := by
  obtain ⟨o, ho, hex, hd⟩ := R.obj
  have sz := R.size
  have rm := R.room
  unfold setAddHashed
  refine wpAny_holding ?_
  rw [show (100000 : Nat) = 99999 + 1 from rfl, setAddHashedIn_succ]
  refine wpAny_bind (wpAny_setState_of ho hd R.fits ?_)
  dsimp only
  refine wp_if_neg (by simp [byScan, Value.scannable]) ?_
  try refine wpAny_bind (wpAny_pure ?_)
  refine wpAny_bind (seek_all R hx hu (fun hm => ?_) fun K hm hK hb => ?_)
  · dsimp only
    exact wpAny_pure (q false s.heap L es ep t (Heap.SameBut.refl a s.heap) R (fun _ => rfl) fun z => absurd hm z)
  · dsimp only
    refine wpAny_bind (wpAny_setState_of ho hd R.fits ?_)
    dsimp only
    obtain ⟨q1, q2, q3, q4, q5, q6, q7, q8, q9⟩ := R.tab.put hK hb
    generalize hpt : t.put (way t.mask (hsh w k) K) = pt at q1 q3 q4 q5 q6 q7 q8 q9 ⊢
    obtain ⟨t1, p⟩ := pt
    dsimp only at q1 q3 q4 q5 q6 q7 q8 q9 ⊢
    subst q1
    rw [List.length_map] at q2 q9
    generalize hpp : SetTable.below t.place (way t.mask (hsh w k) K) = p at q2 q3 ⊢
    have pm : (L.take p ++ (x, k) :: L.drop p).Perm ((x, k) :: L) := put_perm L p (x, k)
    have len : (L.take p ++ (x, k) :: L.drop p).length = L.length + 1 := pm.length_eq
    have hin : (SetTable.insertAt es p (hsh w k, Value.ref x)).toList = (L.take p ++ (x, k) :: L.drop p).map (ent w) := by
      rw [SetTable.toList_insertAt, R.ents, List.map_append, List.map_cons, List.map_take, List.map_drop]
      rfl
    have T1 : TabOk t1 ((L.take p ++ (x, k) :: L.drop p).map fun p => hsh w p.2) := by
      rw [List.map_append, List.map_cons, List.map_take, List.map_drop]
      exact q3
    have nd1 : ((L.take p ++ (x, k) :: L.drop p).map (·.2)).Nodup := (pm.map (·.2)).nodup_iff.mpr (List.nodup_cons.mpr ⟨hm, R.once⟩)
    have s1 : (SetTable.insertAt es p (hsh w k, Value.ref x)).size = L.length + 1 := by
      have e := congrArg List.length hin
      rwa [Array.length_toList, List.length_map, len] at e
    generalize SetTable.insertAt es p (hsh w k, Value.ref x) = es1 at hin s1 ⊢
    generalize L.take p ++ (x, k) :: L.drop p = L1 at pm len hin T1 nd1
    have tail : ∀ t2 : SetTable, TabOk t2 (L1.map fun p => hsh w p.2) → t2.mask = t.mask → t2.led = t.led → t2.fill = L.length + 1 → wpAny (model P w) A (do
        storeSet a es1 t2
        if (!false && t2.tooFull) = true then do
          setRelay a (SetTable.grown (es.size + 1))
          pure true
        else pure true) Q E s := by
      intro t2 T2 m2 l2 f2
      refine wpAny_bind (wpAny_storeSet_of ho hd ?_ (by rw [s1, sizeLine_eq]; omega))
      have sb : Heap.SameBut a s.heap (s.heap.update a (Obj.putSet es1 t2)) := Heap.SameBut.update ..
      have ho1 := store_at (es' := es1) (t' := t2) ho hd
      have keys1 : ∀ p ∈ L1, Key (s.heap.update a (Obj.putSet es1 t2)) p.2 p.1 := fun p hp => by
        rcases List.mem_cons.mp (pm.mem_iff.mp hp) with e | hp
        · rw [e]; exact hx.but ho hd sb
        · exact (R.keys p hp).but ho hd sb
      generalize s.heap.update a (Obj.putSet es1 t2) = h1 at sb ho1 keys1 ⊢
      have ld1 : w.params.followText "set-order" = true ∨ t2.led = true := by rw [l2]; exact R.led
      have ps2 : t2.place.size = es1.size := by
        have e := T2.sz
        rw [List.length_map, len] at e
        rw [e, s1]
      by_cases hf : t2.tooFull = true
      · refine wp_if_pos (by simp [hf]) ?_
        have full : (L.length + 1) * 5 ≥ t2.mask * 3 := by
          have e := hf
          unfold SetTable.tooFull at e
          rwa [decide_eq_true_eq, f2] at e
        have two : (t.mask = 7 ∧ L.length = 4) ∨ (t.mask = 31 ∧ L.length = 18) := by
          rw [m2] at full
          rcases R.tab.mok with e | e | e <;> rw [e] at full rm
          · exact .inl ⟨e, by omega⟩
          · exact .inr ⟨e, by omega⟩
          · omega
        rw [sz]
        have go : ∀ M, SetTable.sizeAbove (SetTable.grown (L.length + 1)) - 1 = M → MaskOk M → SetTable.sizeAbove (SetTable.grown (L.length + 1)) ≤ 128 → (L.length + 1) * 5 < M * 3 →
            wpAny (model P w) A (do setRelay a (SetTable.grown (L.length + 1)); pure true) Q E { s with heap := h1 } := fun M g1 g2 g3 g4 => by
          refine wpAny_bind (relay (s := { s with heap := h1 }) ho1 ⟨hex.1, hex.2.1, hex.2.2⟩ rfl hin ps2 T2.dm (by rw [s1, m2]; rcases two with ⟨e, e2⟩ | ⟨e, e2⟩ <;> omega) nd1 keys1 ld1 (by rw [len]; exact more) g1 g2 g3 (by rw [len]; exact g4) ?_)
          intro h2 L2 es2 ep2 t3 sb2 R2 pm2
          exact wpAny_pure (q true h2 L2 es2 ep2 t3 (sb.trans sb2) R2 (fun z => absurd z hm) fun _ => pm2.trans pm)
        rcases two with ⟨_, e2⟩ | ⟨_, e2⟩
        · exact go 31 (by rw [e2, size_20]) (.inr (.inl rfl)) (by rw [e2, size_20]; decide) (by omega)
        · exact go 127 (by rw [e2, size_76]) (.inr (.inr rfl)) (by rw [e2, size_76]; decide) (by omega)
      · refine wp_if_neg (by simp [hf]) ?_
        refine wpAny_pure (q true h1 L1 es1 (ep + 1) t2 sb ⟨⟨_, ho1, ⟨hex.1, hex.2.1, hex.2.2⟩, rfl⟩, hin, T2, nd1, keys1, ld1, ?_, by rw [len]; exact more⟩ (fun z => absurd z hm) fun _ => pm)
        have e := hf
        unfold SetTable.tooFull at e
        rw [decide_eq_true_eq, f2] at e
        rw [len]
        omega
    have plainOff : ∀ b, TabOk { t1 with plain := b } (L1.map fun p => hsh w p.2) := fun b => ⟨T1.ris, T1.dm, T1.sz, T1.mok, T1.bd, T1.reach⟩
    by_cases hp1 : t1.plain = true
    · refine wp_if_pos hp1 (wpAny_bind (byVal_key k _ 8 s hx.1 hx.2 _ _ _ fun b => ?_))
      cases b with
      | true => exact tail t1 T1 q4 q5 q9
      | false => exact tail { t1 with plain := false } (plainOff false) q4 q5 q9
    · refine wp_if_neg hp1 (wpAny_bind (wpAny_pure ?_))
      exact tail t1 T1 q4 q5 q9
end
end Ns

namespace Ns
open PySem PySem.Spec PyProof.Rows L2
/-- L: what came of the first i of ks, alike ones once -/
structure Came (ks : List (Addr × NestedKey)) (i : Nat) (L : List (Addr × NestedKey)) : Prop where
  among : ∀ p ∈ L, p ∈ ks.take i
  every : ∀ p ∈ ks.take i, p.2 ∈ L.map (·.2)
  len : L.length ≤ i
theorem Came.start (ks : List (Addr × NestedKey)) : Came ks 0 [] := ⟨fun p m => absurd m List.not_mem_nil, fun p m => by simp at m, Nat.le_refl _⟩
theorem Came.old {ks L : List (Addr × NestedKey)} {i : Nat} {x : Addr × NestedKey} (g : Came ks i L) (e : ks[i]? = some x) (m : x.2 ∈ L.map (·.2)) : Came ks (i + 1) L := by
  have tn : ks.take (i + 1) = ks.take i ++ [x] := by
    rw [List.take_succ, e]
    rfl
  refine ⟨fun p hp => ?_, fun p hp => ?_, Nat.le_succ_of_le g.len⟩
  · rw [tn]
    exact List.mem_append_left _ (g.among p hp)
  · rw [tn] at hp
    rcases List.mem_append.mp hp with z | z
    · exact g.every p z
    · rw [List.mem_singleton.mp z]
      exact m
theorem Came.new {ks L L' : List (Addr × NestedKey)} {i : Nat} {x : Addr × NestedKey} (g : Came ks i L) (e : ks[i]? = some x) (pm : L'.Perm (x :: L)) : Came ks (i + 1) L' := by
  have tn : ks.take (i + 1) = ks.take i ++ [x] := by
    rw [List.take_succ, e]
    rfl
  refine ⟨fun p hp => ?_, fun p hp => ?_, by rw [pm.length_eq, List.length_cons]; exact Nat.succ_le_succ g.len⟩
  · rw [tn]
    rcases List.mem_cons.mp (pm.mem_iff.mp hp) with z | z
    · rw [z]
      exact List.mem_append_right _ List.mem_cons_self
    · exact List.mem_append_left _ (g.among p z)
  · have back : ∀ q, q ∈ (x :: L).map (·.2) → q ∈ L'.map (·.2) := fun q hq => (pm.map (·.2)).mem_iff.mpr hq
    rw [tn] at hp
    rcases List.mem_append.mp hp with z | z
    · exact back _ (List.mem_cons_of_mem _ (g.every p z))
    · rw [List.mem_singleton.mp z]
      exact back _ List.mem_cons_self
section
variable {P : Program} {w : World} {A : Around} {E : Value → Shared → Prop} {s : Shared}
theorem Key.kept {h h' : Heap} {k : NestedKey} {b : Addr} (x : Key h k b) (kp : ∀ c o, h.get? c = some o → h'.get? c = some o) : Key h' k b := x.at fun c o _ _ e _ => kp c o e
theorem NSet.kept {h h' : Heap} {a : Addr} {L : List (Addr × NestedKey)} {es : Array (Int × Value)} {ep : Nat} {t : SetTable} (R : NSet w h a L es ep t) (ha : ∀ o, h.get? a = some o → h'.get? a = some o) (hk : ∀ p ∈ L, Key h' p.2 p.1) : NSet w h' a L es ep t := by
  obtain ⟨o, ho, r⟩ := R.obj
  exact ⟨⟨o, ha o ho, r⟩, R.ents, R.tab, R.once, hk, R.led, R.room, R.few⟩
/-- the object of a new set -/
abbrev newSet (w : World) : Obj := { cls := .type "set", dict := none, data := .set #[] 0 (.fresh 0 0 (!w.params.followText "set-order")) }
theorem nset_new {h : Heap} {a : Addr} (ho : h.get? a = some (newSet w)) : NSet w h a [] #[] 0 (.fresh 0 0 (!w.params.followText "set-order")) where
  obj := ⟨_, ho, ⟨rfl, rfl, rfl⟩, rfl⟩
  ents := rfl
  tab := ⟨List.Pairwise.nil, rfl, rfl, .inl rfl, fun x hx => (nomatch hx), fun i h j hi => by simp at hi⟩
  once := List.nodup_nil
  keys := fun p m => absurd m List.not_mem_nil
  led := by
    show _ ∨ (!w.params.followText "set-order") = true
    cases w.params.followText "set-order" with
    | true => exact .inl rfl
    | false => exact .inr rfl
  room := by show 0 * 5 < 7 * 3; decide
  few := by show 0 < 64; decide
/-- the loop that fills a set -/
theorem fill_loop {I : Addr} {fp wr : List Addr} {G : Array GenState → Array GenState → Prop} {n : Nat} {Pv : Nat → Value → Prop} {St : Nat → Shared → Prop} {R : Result → Shared → Prop}
    (W : WalksS P w A.in1 I fp wr G n Pv St) (S : Addr) (off : S ∉ fp) (ks : List (Addr × NestedKey)) (hn : n = ks.length) (few : ks.length < 64) (val : ∀ i v, Pv i v → ∃ p, ks[i]? = some p ∧ v = .ref p.1)
    (h0 : Heap) (hk : ∀ p ∈ ks, Key h0 p.2 p.1) (noS : h0.get? S = none) (noW : ∀ b ∈ wr, h0.get? b = none) (hu : A.in1.units + 8 < cLine) :
    ∀ (k i : Nat) (s : Shared), n - i = k → i ≤ n → St i s → (∀ b o, h0.get? b = some o → s.heap.get? b = some o) → (∃ L es ep t, NSet w s.heap S L es ep t ∧ Came ks i L) →
      (∀ s' L es ep t, Moved (S :: wr) G s s' → NSet w s'.heap S L es ep t → Came ks n L → (∀ b o, h0.get? b = some o → s'.heap.get? b = some o) → R (.ok (.ret .none)) s') →
      codeAny (model P w) A (.builtin "set.update.loop" ⟨[.ref S, .ref I], []⟩) R s := by
  have offW : S ∉ wr := fun z => off (W.sub _ z)
  have wider : ∀ b ∈ wr, b ∈ S :: wr := fun b hb => List.mem_cons_of_mem _ hb
  have stay : ∀ {s s' : Shared}, Moved wr G s s' → (∀ b o, h0.get? b = some o → s.heap.get? b = some o) → ∀ b o, h0.get? b = some o → s'.heap.get? b = some o := fun hm kp b o e =>
    hm.heap b o (fun z => by rw [noW b z] at e; cases e) (kp b o e)
  have inks : ∀ {i : Nat} {L : List (Addr × NestedKey)}, Came ks i L → ∀ p ∈ L, p ∈ ks := fun g p hp => List.mem_of_mem_take (g.among p hp)
  intro k
  induction k with
  | zero =>
    intro i s dist le st kp ⟨L, es, ep, t, hS, g⟩ fin
    obtain rfl : i = n := by omega
    refine codeAny_builtin F.entry_set_update_loop ?_
    rw [Around.under_plainId F.plain_set_update_loop _]
    show wpAny _ A.in1 (pyNext (.ref I) >>= _) _ _ s
    refine wpAny_bind (W.done s _ _ st fun s' hm => ?_)
    show wpAny _ A.in1 (ret Value.none) _ _ s'
    have kp' := stay hm kp
    exact wpAny_pure (fin s' L es ep t (hm.mono wider) (hS.kept (fun o e => hm.heap S o offW e) fun p hp => (hk p (inks g p hp)).kept kp') g kp')
  | succ k ih =>
    intro i s dist le st kp ⟨L, es, ep, t, hS, g⟩ fin
    have lt : i < n := by omega
    refine codeAny_builtin F.entry_set_update_loop ?_
    rw [Around.under_plainId F.plain_set_update_loop _]
    show wpAny _ A.in1 (pyNext (.ref I) >>= _) _ _ s
    refine wpAny_bind (W.item i s _ _ lt st fun v s' hP st' hm => ?_)
    obtain ⟨p, hp, rfl⟩ := val i v hP
    have kp' := stay hm kp
    have hS' : NSet w s'.heap S L es ep t := hS.kept (fun o e => hm.heap S o offW e) fun q hq => (hk q (inks g q hq)).kept kp'
    have hx : Key s'.heap p.2 p.1 := (hk p (List.mem_of_getElem? hp)).kept kp'
    show wpAny _ A.in1 (holding [Value.ref p.1] (setAdd S (.ref p.1)) >>= _) _ _ s'
    refine wpAny_bind (wpAny_holding ?_)
    unfold setAdd
    refine wpAny_holding ?_
    refine wpAny_bind ((nestedKind P w).pyHash (k := p.2) hu hx ?_)
    refine put (s := { s' with toks := s'.toks + p.2.draws }) hS' hx hu (by have := g.len; omega) fun b h' L' es' ep' t' same hS2 c1 c2 => ?_
    have g' : Came ks (i + 1) L' := by
      by_cases c : p.2 ∈ L.map (·.2)
      · rw [c1 c]
        exact g.old hp c
      · exact g.new hp (c2 c)
    have kp2 : ∀ b o, h0.get? b = some o → h'.get? b = some o := fun b o e => (same.2 b (fun z => by rw [z, noS] at e; cases e)).trans (kp' b o e)
    refine wpAny_pure ⟨plainId_quiet F.plain_set_update_loop _, ih (i + 1) _ (by omega) lt (W.frame _ s' _ _ st' (Nat.le_add_right _ _) fun b hb o e => ?_) kp2 ⟨L', es', ep', t', hS2, g'⟩ fun s'' L2 es2 ep2 t2 hm2 hS3 g3 kp3 => ?_⟩
    · rw [same.2 b (fun z : b = S => off (by rw [← z]; exact hb))]
      exact e
    · refine fin s'' L2 es2 ep2 t2 (Moved.trans W.gtrans ((hm.mono wider).then_heap (Nat.le_add_right _ _) fun b o hb e => ?_) hm2) hS3 g3 kp3
      rw [same.2 b (fun z : b = S => hb (by rw [z]; exact List.mem_cons_self))]
      exact e
set_option maxHeartbeats 3200000 in
/-- set(xs) of a list of keys -/
theorem call_set {l : Addr} {items : Array Value} (ks : List (Addr × NestedKey)) {Q : Value → Shared → Prop} (cold : A.handled = none) (hl : s.heap.IsList l items) (hit : items.toList = ks.map fun p => Value.ref p.1)
    (hk : ∀ p ∈ ks, Key s.heap p.2 p.1) (few : ks.length < 64) (hu : A.units + 11 < cLine)
    (q : ∀ (h' : Heap) (tk : Nat) L es ep t, NSet w h' s.heap.objs.size L es ep t → Came ks ks.length L → (∀ b o, s.heap.get? b = some o → h'.get? b = some o) → Q (.ref s.heap.objs.size) { s with heap := h', toks := tk }) :
    wpAny (model P w) A (call (.type "set") [.ref l]) Q E s := by
  have isz : items.size = ks.length := by
    have e := congrArg List.length hit
    rwa [Array.length_toList, List.length_map] at e
  obtain ⟨c, tl, hmro⟩ := F.called_set.mro
  have hmade := F.called_set.made
  have hsub := F.called_set.sub
  refine wpAny_call (codeAny_of_tree ?_)
  show wpAny _ _ (callAny (.type "set") _) _ _ _
  refine wpAny_pure ⟨Code.quiet_builtin _ (by decide +kernel), codeAny_builtin F.entry_type_call ?_⟩
  rw [Around.under_plain (weight_type_call_type "set" [.ref l] []) rfl]
  have h1 := F.called_set.notType
  have h2 := F.called_set.canCreate
  have hct := F.typeCall_set_1 (.ref l)
  repeat (any_goals (first | assumption | wp_step))
  refine codeAny_mono (code_set_led1 (.ref l) (E := E) (Q₁ := fun obj s₁ => obj = .ref s.heap.objs.size ∧ s₁ = { s with heap := s.heap.push (newSet w) }) ⟨rfl, rfl⟩) fun r s₁ hr => ?_
  match r, hr with
  | .error e, hr => exact hr
  | .ok (.ret obj), hr =>
    obtain ⟨rfl, rfl⟩ := hr
    have atS : (s.heap.push (newSet w)).get? s.heap.objs.size = some (newSet w) := Heap.get?_push_size _ rfl
    have tyS : Shared.TypeIs { s with heap := s.heap.push (newSet w) } (.ref s.heap.objs.size) "set" := ⟨_, atS, rfl⟩
    have hli := F.called_set.init.lookup
    have hbi := F.called_set.init.bind (.ref s.heap.objs.size)
    repeat (any_goals (first | assumption | wp_step))
    refine codeAny_mono (codeAny_call_builtin (R := wants (fun r s₂ => r = .none ∧ ∃ h' tk L es ep t, s₂ = { s with heap := h', toks := tk } ∧ NSet w h' s.heap.objs.size L es ep t ∧ Came ks ks.length L ∧
        (∀ b o, s.heap.get? b = some o → h'.get? b = some o)) E) F.called_set.init.plain F.entry_set_init (check_set_init_1 tyS ?_)) fun r₂ s₂ hr₂ => ?_
    · obtain ⟨ol, hol, hcl, nl, hdl⟩ := hl
      obtain ⟨ocls, odict, odata, oslots⟩ := ol
      simp only at hcl hdl
      subst hcl; subst hdl
      have hsls := F.sub_list_set
      have hslf := F.sub_list_frozenset
      have hne : (Value.type "list" == Value.type "dict") = false := by decide
      have hol' : (s.heap.push (newSet w)).get? l = some { cls := .type "list", dict := odict, data := .seq items nl, slots := oslots } := Heap.get?_push_of_some _ hol
      have isl : (s.heap.push (newSet w)).IsList l items := ⟨_, hol', rfl, nl, rfl⟩
      unfold Builtin.«set.__init__» noKeywords Builtin.Frozenset.updateFrom
      generalize hPI : pyIter = PI
      wp_walk
      subst hPI
      refine wpAny_pyIter_list isl ?_
      refine wpAny_bind (wpAny_runValue ?_)
      have below : l < s.heap.objs.size := Heap.lt_size hol
      have cold3 : A.in1.in1.in1.handled = none := by simp [cold]
      have sz1 : (s.heap.push (newSet w)).objs.size = s.heap.objs.size + 1 := Heap.size_push ..
      have nel : l ≠ (s.heap.push (newSet w)).objs.size := by rw [sz1]; exact Nat.ne_of_lt (Nat.lt_succ_of_lt below)
      have off : s.heap.objs.size ∉ [(s.heap.push (newSet w)).objs.size, l] := by
        rw [sz1]
        simp only [List.mem_cons, List.not_mem_nil, or_false, not_or]
        exact ⟨Nat.ne_of_lt (Nat.lt_succ_self _), Nat.ne_of_gt below⟩
      have val : ∀ (i : Nat) (v : Value), items[i]? = some v → ∃ p, ks[i]? = some p ∧ v = .ref p.1 := fun i v hv => by
        have e : items.toList[i]? = some v := by rw [Array.getElem?_toList]; exact hv
        rw [hit, List.getElem?_map] at e
        cases g : ks[i]? with
        | none => rw [g] at e; cases e
        | some p =>
          rw [g] at e
          exact ⟨p, rfl, (Option.some.inj e).symm⟩
      have gone : ∀ b, s.heap.objs.size ≤ b → s.heap.get? b = none := fun b hb => by
        cases g : s.heap.get? b with
        | none => rfl
        | some o => exact absurd (Nat.lt_of_lt_of_le (Heap.lt_size g) hb) (Nat.lt_irrefl _)
      refine fill_loop ((Walks.list cold3 _ l nel items).toS) s.heap.objs.size off ks isz few val s.heap hk (gone _ (Nat.le_refl _)) (fun b hb => gone b (by rw [List.mem_singleton.mp hb, sz1]; exact Nat.le_succ _)) (by simp only [Around.in1_units]; omega) (items.size - 0) 0 _ (by omega) (Nat.zero_le _)
        ⟨⟨_, Heap.get?_push_size _ rfl, rfl, rfl⟩, (isl.push _)⟩ (fun b o e => Heap.get?_push_of_some _ (Heap.get?_push_of_some _ e)) ?begin ?done
      case begin =>
        have e : ((s.heap.push (newSet w)).push { cls := .type "list_iterator", data := .fields #[.ref l, .int 0 0] }).get? s.heap.objs.size = some (newSet w) := Heap.get?_push_of_some _ atS
        exact ⟨[], #[], 0, _, nset_new e, Came.start ks⟩
      case done =>
        intro s' L es ep t hm hS' g' kp
        obtain ⟨h', g2, d', tk', os'⟩ := s'
        obtain rfl : g2 = s.gens := hm.gens
        obtain rfl : d' = s.drawn := hm.drawn
        obtain rfl : os' = s.os := hm.os
        show wpAny _ _ _ _ _ _
        refine wpAny_pure ?_
        show wpAny _ _ (ret Value.none) _ _ _
        rw [isz] at g'
        exact wpAny_pure ⟨rfl, h', tk', L, es, ep, t, rfl, hS', g', kp⟩
    · match r₂, hr₂ with
      | .error e, hr₂ => exact hr₂
      | .ok (.ret r), hr₂ =>
        obtain ⟨rfl, h', tk, L, es, ep, t, rfl, hS', g', hk'⟩ := hr₂
        repeat (any_goals (first | assumption | wp_step))
        exact q _ _ _ _ _ _ hS' g' hk'
set_option maxHeartbeats 3200000 in
/-- set(xs) of a tuple of keys -/
theorem call_setT {l : Addr} {items : Array Value} (ks : List (Addr × NestedKey)) {Q : Value → Shared → Prop} (cold : A.handled = none) (hl : s.heap.IsTuple l items) (hit : items.toList = ks.map fun p => Value.ref p.1)
    (hk : ∀ p ∈ ks, Key s.heap p.2 p.1) (few : ks.length < 64) (hu : A.units + 11 < cLine)
    (q : ∀ (h' : Heap) (tk : Nat) L es ep t, NSet w h' s.heap.objs.size L es ep t → Came ks ks.length L → (∀ b o, s.heap.get? b = some o → h'.get? b = some o) → Q (.ref s.heap.objs.size) { s with heap := h', toks := tk }) :
    wpAny (model P w) A (call (.type "set") [.ref l]) Q E s := by
  have isz : items.size = ks.length := by
    have e := congrArg List.length hit
    rwa [Array.length_toList, List.length_map] at e
  obtain ⟨c, tl, hmro⟩ := F.called_set.mro
  have hmade := F.called_set.made
  have hsub := F.called_set.sub
  refine wpAny_call (codeAny_of_tree ?_)
  show wpAny _ _ (callAny (.type "set") _) _ _ _
  refine wpAny_pure ⟨Code.quiet_builtin _ (by decide +kernel), codeAny_builtin F.entry_type_call ?_⟩
  rw [Around.under_plain (weight_type_call_type "set" [.ref l] []) rfl]
  have h1 := F.called_set.notType
  have h2 := F.called_set.canCreate
  have hct := F.typeCall_set_1 (.ref l)
  repeat (any_goals (first | assumption | wp_step))
  refine codeAny_mono (code_set_led1 (.ref l) (E := E) (Q₁ := fun obj s₁ => obj = .ref s.heap.objs.size ∧ s₁ = { s with heap := s.heap.push (newSet w) }) ⟨rfl, rfl⟩) fun r s₁ hr => ?_
  match r, hr with
  | .error e, hr => exact hr
  | .ok (.ret obj), hr =>
    obtain ⟨rfl, rfl⟩ := hr
    have atS : (s.heap.push (newSet w)).get? s.heap.objs.size = some (newSet w) := Heap.get?_push_size _ rfl
    have tyS : Shared.TypeIs { s with heap := s.heap.push (newSet w) } (.ref s.heap.objs.size) "set" := ⟨_, atS, rfl⟩
    have hli := F.called_set.init.lookup
    have hbi := F.called_set.init.bind (.ref s.heap.objs.size)
    repeat (any_goals (first | assumption | wp_step))
    refine codeAny_mono (codeAny_call_builtin (R := wants (fun r s₂ => r = .none ∧ ∃ h' tk L es ep t, s₂ = { s with heap := h', toks := tk } ∧ NSet w h' s.heap.objs.size L es ep t ∧ Came ks ks.length L ∧
        (∀ b o, s.heap.get? b = some o → h'.get? b = some o)) E) F.called_set.init.plain F.entry_set_init (check_set_init_1 tyS ?_)) fun r₂ s₂ hr₂ => ?_
    · obtain ⟨ol, hol, hcl, nl, hdl⟩ := hl
      obtain ⟨ocls, odict, odata, oslots⟩ := ol
      simp only at hcl hdl
      subst hcl; subst hdl
      have hsls := F.sub_tuple_set
      have hslf := F.sub_tuple_frozenset
      have hne : (Value.type "tuple" == Value.type "dict") = false := by decide
      have hol' : (s.heap.push (newSet w)).get? l = some { cls := .type "tuple", dict := odict, data := .seq items nl, slots := oslots } := Heap.get?_push_of_some _ hol
      have isl : (s.heap.push (newSet w)).IsTuple l items := ⟨_, hol', rfl, nl, rfl⟩
      unfold Builtin.«set.__init__» noKeywords Builtin.Frozenset.updateFrom
      generalize hPI : pyIter = PI
      wp_walk
      subst hPI
      refine wpAny_pyIter_tuple isl ?_
      refine wpAny_bind (wpAny_runValue ?_)
      have below : l < s.heap.objs.size := Heap.lt_size hol
      have cold3 : A.in1.in1.in1.handled = none := by simp [cold]
      have sz1 : (s.heap.push (newSet w)).objs.size = s.heap.objs.size + 1 := Heap.size_push ..
      have nel : l ≠ (s.heap.push (newSet w)).objs.size := by rw [sz1]; exact Nat.ne_of_lt (Nat.lt_succ_of_lt below)
      have off : s.heap.objs.size ∉ [(s.heap.push (newSet w)).objs.size, l] := by
        rw [sz1]
        simp only [List.mem_cons, List.not_mem_nil, or_false, not_or]
        exact ⟨Nat.ne_of_lt (Nat.lt_succ_self _), Nat.ne_of_gt below⟩
      have val : ∀ (i : Nat) (v : Value), items[i]? = some v → ∃ p, ks[i]? = some p ∧ v = .ref p.1 := fun i v hv => by
        have e : items.toList[i]? = some v := by rw [Array.getElem?_toList]; exact hv
        rw [hit, List.getElem?_map] at e
        cases g : ks[i]? with
        | none => rw [g] at e; cases e
        | some p =>
          rw [g] at e
          exact ⟨p, rfl, (Option.some.inj e).symm⟩
      have gone : ∀ b, s.heap.objs.size ≤ b → s.heap.get? b = none := fun b hb => by
        cases g : s.heap.get? b with
        | none => rfl
        | some o => exact absurd (Nat.lt_of_lt_of_le (Heap.lt_size g) hb) (Nat.lt_irrefl _)
      refine fill_loop ((Walks.tuple cold3 _ l nel items).toS) s.heap.objs.size off ks isz few val s.heap hk (gone _ (Nat.le_refl _)) (fun b hb => gone b (by rw [List.mem_singleton.mp hb, sz1]; exact Nat.le_succ _)) (by simp only [Around.in1_units]; omega) (items.size - 0) 0 _ (by omega) (Nat.zero_le _)
        ⟨⟨_, Heap.get?_push_size _ rfl, rfl, rfl⟩, (isl.push _)⟩ (fun b o e => Heap.get?_push_of_some _ (Heap.get?_push_of_some _ e)) ?begin ?done
      case begin =>
        have e : ((s.heap.push (newSet w)).push { cls := .type "tuple_iterator", data := .fields #[.ref l, .int 0 0] }).get? s.heap.objs.size = some (newSet w) := Heap.get?_push_of_some _ atS
        exact ⟨[], #[], 0, _, nset_new e, Came.start ks⟩
      case done =>
        intro s' L es ep t hm hS' g' kp
        obtain ⟨h', g2, d', tk', os'⟩ := s'
        obtain rfl : g2 = s.gens := hm.gens
        obtain rfl : d' = s.drawn := hm.drawn
        obtain rfl : os' = s.os := hm.os
        show wpAny _ _ _ _ _ _
        refine wpAny_pure ?_
        show wpAny _ _ (ret Value.none) _ _ _
        rw [isz] at g'
        exact wpAny_pure ⟨rfl, h', tk', L, es, ep, t, rfl, hS', g', kp⟩
    · match r₂, hr₂ with
      | .error e, hr₂ => exact hr₂
      | .ok (.ret r), hr₂ =>
        obtain ⟨rfl, h', tk, L, es, ep, t, rfl, hS', g', hk'⟩ := hr₂
        repeat (any_goals (first | assumption | wp_step))
        exact q _ _ _ _ _ _ hS' g' hk'
end
end Ns

namespace Ns
open PySem PySem.Spec PyProof.Rows L2
open PySem.W (EachIs AllAlike Sortable dataLe)
theorem each_refs {L : List (Addr × PyData)} : ∀ {vs : List Value} {bs : List (Addr × PyData)}, EachIs (fun v p => v = Value.ref p.1) vs bs → vs = bs.map fun p => Value.ref p.1
  | _, _, .nil => rfl
  | _, _, .cons e t => by rw [List.map_cons, ← each_refs (L := L) t, e]
theorem refs_each : ∀ (bs : List (Addr × PyData)), EachIs (fun v p => v = Value.ref p.1) (bs.map fun p => Value.ref p.1) bs
  | [] => .nil
  | _ :: bs => .cons rfl (refs_each bs)
theorem each_of {R : Value → Addr × PyData → Prop} : ∀ (bs : List (Addr × PyData)), (∀ p ∈ bs, R (.ref p.1) p) → EachIs R (bs.map fun p => Value.ref p.1) bs
  | [], _ => .nil
  | b :: bs, h => .cons (h b List.mem_cons_self) (each_of bs fun p m => h p (List.mem_cons_of_mem _ m))
/-- the order of data that sorted goes by -/
abbrev le2 : Addr × PyData → Addr × PyData → Bool := dataLe false (fun p => p.2)
section
variable {P : Program} {w : World} {A : Around} {E : Value → Shared → Prop} {s : Shared}
/-- sorted(set) -/
theorem sorted_set {a : Addr} {L : List (Addr × PyData)} {tk : PyData → NestedKey} {es : Array (Int × Value)} {ep : Nat} {t : SetTable} {Q : Value → Shared → Prop} (R : NSet w s.heap a (L.map fun p => (p.1, tk p.2)) es ep t) (cold : A.handled = none) (hu : A.units + 16 < cLine)
    (rd : ∀ p ∈ L, Reads s.heap (.ref p.1) p.2 []) (al : AllAlike (L.map (·.2))) (so : Sortable (L.map (·.2))) (dep : ∀ p ∈ L, p.2.depth ≤ 8)
    (q : ∀ s' p (out : Array Value) (c : Nat) (L' : List (Addr × PyData)), (∀ b o, s.heap.get? b = some o → s'.heap.get? b = some o) → s'.gens = s.gens → s'.os = s.os → s.heap.objs.size ≤ p →
      s'.heap.get? p = some (seqObj "list" out c) → out.toList = L'.map (fun r => Value.ref r.1) → L'.Perm L → L'.Pairwise (fun x y => le2 x y = true) → Q (.ref p) s') :
    wpAny (model P w) A (call (.builtin "sorted") [.ref a]) Q E s := by
  obtain ⟨o, ho, hex, hd⟩ := R.obj
  have sz := R.size
  have few := R.few
  rw [List.length_map] at sz few
  refine Calls.call_function_entry kind_sorted plain_sorted entry_sorted (args_sorted1 _) ?_
  unfold Builtin.«sorted»
  refine wpAny_bind (m := checkCount "sorted" 1 1 _) (wpAny_pure ?_)
  refine wpAny_bind (collect_set (A := A.in1) cold ⟨o, ho, hex.1, hd⟩ R.fits (by unfold scanBound; omega) R.tab.ris R.led fun s1 vs kp grew g1 o1 pm => ?_)
  have ee : es.toList.map (·.2) = L.map fun r => Value.ref r.1 := by
    rw [R.ents, List.map_map, List.map_map]
    rfl
  obtain ⟨L1, p1, rfl⟩ := perm_back (fun r : Addr × PyData => Value.ref r.1) pm ee
  have len1 : L1.length = L.length := p1.length_eq
  refine wpAny_bind (wpAny_newList ?_ (by rw [List.length_map, sizeLine_eq]; omega))
  have atL : (s1.heap.push (seqObj "list" (L1.map fun r => Value.ref r.1).toArray 0)).get? s1.heap.objs.size = some (seqObj "list" (L1.map fun r => Value.ref r.1).toArray 0) := Heap.get?_push_size _ rfl
  have mem : ∀ d, d ∈ L1.map (·.2) → d ∈ L.map (·.2) := fun d hd => (p1.map (·.2)).mem_iff.mp hd
  refine wpAny_bind (wpAny_holding (PySem.W.list_sort_data (s := { s1 with heap := s1.heap.push (seqObj "list" (L1.map fun r => Value.ref r.1).toArray 0) }) (bs := L1) (enc := fun p => p.2) (R := fun v p => v = Value.ref p.1) atL (refs_each L1)
    (each_of L1 fun p hp => ⟨[], Reads.keeps (fun b u e => Heap.get?_push_of_some _ (kp b u e)) (rd p (p1.mem_iff.mp hp)), List.not_mem_nil⟩)
    (fun d hd d' hd' => al d (mem d hd) d' (mem d' hd')) ?_ (by rw [sizeLine_eq]; omega) (fun b hb => ?_) fun out len each => ?_))
  · rcases so with h | h
    · exact .inl fun d hd => h d (mem d hd)
    · exact .inr fun d hd => h d (mem d hd)
  · have := dep b (p1.mem_iff.mp hb)
    simp only [Around.in1_units]
    omega
  · obtain ⟨c, hc⟩ := sortedHeap_at (vs := L1.map fun r => Value.ref r.1) (out := out.toArray) atL
    have eo := each_refs (L := L) each
    refine wpAny_pure ⟨_, rfl, q _ s1.heap.objs.size out.toArray c (L1.mergeSort le2) (fun b u e => ?_) g1 o1 grew hc (by simpa using eo) ((List.mergeSort_perm L1 _).trans p1) (PySem.W.sort_pairwise (PySem.W.sortLe_total _ _ _) L1)⟩
    have e' := kp b u e
    have lt := Heap.lt_size e'
    show (sortedHeap (s1.heap.push (seqObj "list" (L1.map fun r => Value.ref r.1).toArray 0)) s1.heap.objs.size _ _).get? b = some u
    rw [sortedHeap_old (Nat.ne_of_lt lt) (by rw [size_push']; exact Nat.lt_succ_of_lt lt)]
    exact Heap.get?_push_of_some _ e'
end
end Ns

namespace Ns
open PySem PySem.Spec PyProof.Rows L2
open PySem.W (EachIs AllAlike Sortable dataLe)
mutual
/-- data that may be a key: None, whole numbers, texts, tuples of such -/
def kb : PyData → Bool
  | .none => true
  | .int _ => true
  | .str _ => true
  | .tuple ds => kbAll ds
  | .bool _ => false
  | .list _ => false
  | .dict _ => false
def kbAll : List PyData → Bool
  | [] => true
  | d :: ds => kb d && kbAll ds
end
mutual
def tk : PyData → NestedKey
  | .none => .none
  | .int i => .num i
  | .str x => .text x
  | .tuple ds => .tup (tkAll ds)
  | .bool _ => .none
  | .list _ => .none
  | .dict _ => .none
def tkAll : List PyData → List NestedKey
  | [] => []
  | d :: ds => tk d :: tkAll ds
end
mutual
theorem tk_inj : ∀ (d e : PyData), kb d = true → kb e = true → tk d = tk e → d = e
  | .none, .none, _, _, _ => rfl
  | .int i, .int j, _, _, h => by simp only [tk, NestedKey.num.injEq] at h; rw [h]
  | .str x, .str y, _, _, h => by simp only [tk, NestedKey.text.injEq] at h; rw [h]
  | .tuple ds, .tuple es, h1, h2, h => by
    simp only [tk, NestedKey.tup.injEq] at h
    simp only [kb] at h1 h2
    rw [tkAll_inj ds es h1 h2 h]
  | .none, .int _, _, _, h => by cases h
  | .none, .str _, _, _, h => by cases h
  | .none, .tuple _, _, _, h => by cases h
  | .int _, .none, _, _, h => by cases h
  | .int _, .str _, _, _, h => by cases h
  | .int _, .tuple _, _, _, h => by cases h
  | .str _, .none, _, _, h => by cases h
  | .str _, .int _, _, _, h => by cases h
  | .str _, .tuple _, _, _, h => by cases h
  | .tuple _, .none, _, _, h => by cases h
  | .tuple _, .int _, _, _, h => by cases h
  | .tuple _, .str _, _, _, h => by cases h
  | .bool _, _, h, _, _ => by cases h
  | .list _, _, h, _, _ => by cases h
  | .dict _, _, h, _, _ => by cases h
  | _, .bool _, _, h, _ => by cases h
  | _, .list _, _, h, _ => by cases h
  | _, .dict _, _, h, _ => by cases h
theorem tkAll_inj : ∀ (ds es : List PyData), kbAll ds = true → kbAll es = true → tkAll ds = tkAll es → ds = es
  | [], [], _, _, _ => rfl
  | d :: ds, e :: es, h1, h2, h => by
    simp only [kbAll, Bool.and_eq_true] at h1 h2
    simp only [tkAll, List.cons.injEq] at h
    rw [tk_inj d e h1.1 h2.1 h.1, tkAll_inj ds es h1.2 h2.2 h.2]
  | [], _ :: _, _, _, h => by cases h
  | _ :: _, [], _, _, h => by cases h
end
mutual
theorem tk_depth : ∀ (d : PyData), kb d = true → (tk d).depth = d.depth
  | .none, _ => rfl
  | .int _, _ => rfl
  | .str _, _ => rfl
  | .tuple ds, h => by
    simp only [kb] at h
    simp only [tk, NestedKey.depth, PyData.depth, tkAll_depth ds h]
  | .bool _, h => by cases h
  | .list _, h => by cases h
  | .dict _, h => by cases h
theorem tkAll_depth : ∀ (ds : List PyData), kbAll ds = true → NestedKey.depthAll (tkAll ds) = PyData.depthAll ds
  | [], _ => rfl
  | d :: ds, h => by
    simp only [kbAll, Bool.and_eq_true] at h
    simp only [tkAll, NestedKey.depthAll, PyData.depthAll, tk_depth d h.1, tkAll_depth ds h.2]
end
section
variable {X : Cx} {pins : List (Addr × Obj)} {σ : L2.St} {H : Hp} {s : Shared}
mutual
theorem dp_both (I : Inv X pins σ H s) : ∀ (d : PyData) (v : V) (u : Value), Dp X.K H v d → kb d = true → RelV v u → NestedIs s.heap (tk d) u ∧ Reads s.heap u d []
  | .none, _, _, h, _, r => by
    cases h
    cases r
    exact ⟨.none, .none⟩
  | .int i, _, _, h, _, r => by
    cases h
    obtain ⟨t, rfl⟩ := r
    exact ⟨.int i t, .int i t⟩
  | .str x, _, _, h, _, r => by
    cases h
    obtain ⟨t, rfl⟩ := r
    exact ⟨.text x t, .str x t⟩
  | .tuple ds, _, _, h, k, r => by
    cases h with
    | tup hs ha =>
      cases r
      simp only [kb] at k
      obtain ⟨its, rv, ⟨o, ho, hc, n, hd⟩, _⟩ := I.tuple hs
      obtain ⟨q1, q2⟩ := dp_bothAll I ds _ its ha k rv
      exact ⟨.tup ho hc hd (by simpa using q1), .tuple ho hc hd (by simpa using q2)⟩
  | .bool _, _, _, _, k, _ => by cases k
  | .list _, _, _, _, k, _ => by cases k
  | .dict _, _, _, _, k, _ => by cases k
theorem dp_bothAll (I : Inv X pins σ H s) : ∀ (ds : List PyData) (vs : List V) (us : List Value), DpAll X.K H vs ds → kbAll ds = true → Vals vs us → NestedAll s.heap (tkAll ds) us ∧ ReadsAll s.heap us ds []
  | [], _, _, h, _, r => by
    cases h
    cases r
    exact ⟨.nil, .nil⟩
  | d :: ds, _, _, h, k, r => by
    cases h with
    | cons h1 h2 =>
      cases r with
      | cons r1 r2 =>
        simp only [kbAll, Bool.and_eq_true] at k
        obtain ⟨q1, q2⟩ := dp_both I d _ _ h1 k.1 r1
        obtain ⟨q3, q4⟩ := dp_bothAll I ds _ _ h2 k.2 r2
        exact ⟨.cons q1 q3, .cons q2 q4⟩
end
end
/-- the set at a of the keys at those addresses, but the keys themselves -/
def SetN (w : World) (h : Heap) (a : Addr) (L : List (Addr × PyData)) : Prop := ∃ es ep t, (∃ o, h.get? a = some o ∧ o.ExactSet ∧ o.data = .set es ep t) ∧ (∀ h', (∃ o, h'.get? a = some o ∧ o.ExactSet ∧ o.data = .set es ep t) → (∀ p ∈ L, Key h' (tk p.2) p.1) → NSet w h' a (L.map fun p => (p.1, tk p.2)) es ep t)
def SetNO (w : World) (a : Addr) (L : List (Addr × PyData)) : HO := .ext fun h => SetN w h a L
theorem setN_of {w : World} {h : Heap} {a : Addr} {L : List (Addr × PyData)} {es : Array (Int × Value)} {ep : Nat} {t : SetTable} (R : NSet w h a (L.map fun p => (p.1, tk p.2)) es ep t) : SetN w h a L :=
  ⟨es, ep, t, R.obj, fun h' o k => ⟨o, R.ents, R.tab, R.once, fun p hp => by
    obtain ⟨q, hq, rfl⟩ := List.mem_map.mp hp
    exact k q hq, R.led, R.room, R.few⟩⟩
theorem setNO_ok {P : Program} {w : World} {H : Hp} {h : Heap} {a : Addr} {L : List (Addr × PyData)} (R : SetN w h a L) : ObjOk P w H h a (SetNO w a L) := by
  obtain ⟨es, ep, t, ⟨o, ho, r⟩, q⟩ := id R
  refine ⟨R, ⟨o, ho⟩, fun h1 h2 p k => ?_⟩
  obtain ⟨es', ep', t', ⟨o', ho', r'⟩, q'⟩ := (show SetN w h1 a L from p)
  exact ⟨es', ep', t', ⟨o', k o' ho', r'⟩, q'⟩
theorem refs_of : ∀ {ks : List (Addr × PyData)} {us : List Value}, Vals (ks.map fun p => V.ref p.1) us → us = ks.map fun p => Value.ref p.1
  | [], _, .nil => rfl
  | p :: ks, _, .cons r t => by
    cases r
    rw [refs_of t]
    rfl
theorem vals_refs : ∀ (ks : List (Addr × PyData)), Vals (ks.map fun p => V.ref p.1) (ks.map fun p => Value.ref p.1)
  | [] => .nil
  | p :: ks => .cons rfl (vals_refs ks)
/-- at an address stands the tuple that reads as this, fit for a key -/
def Kp (K : PySem.W.Frag) (H : Hp) (p : Addr × PyData) : Prop := Dp K H (.ref p.1) p.2 ∧ kb p.2 = true ∧ p.2.depth ≤ 8
section
variable {X : Cx}
theorem Kp.key {pins : List (Addr × Obj)} {σ : L2.St} {H : Hp} {s : Shared} (I : Inv X pins σ H s) {p : Addr × PyData} (k : Kp X.K H p) : Key s.heap (tk p.2) p.1 := ⟨(dp_both I _ _ _ k.1 k.2.1 rfl).1, by rw [tk_depth _ k.2.1]; exact k.2.2⟩
/-- set(xs), xs a list of such tuples -/
def rSetN (K : PySem.W.Frag) (w : World) : List V → Hp → VK → Prop := fun xs H Q => ∃ (l : Addr) (ks : List (Addr × PyData)), xs = [V.ref l] ∧ (SqL K H l (ks.map fun p => V.ref p.1) ∨ SqT K H l (ks.map fun p => V.ref p.1)) ∧ (∀ p ∈ ks, Kp K H p) ∧ ks.length < 64 ∧
  ∀ a L, H a = none → (∀ p ∈ L, p ∈ ks) → (∀ p ∈ ks, p.2 ∈ L.map (·.2)) → (L.map (·.2)).Nodup → Q (.ref a) (upd H a (SetNO w a L))
theorem cr_setN (hc : X.calm = true) (hu : X.A.units + 64 < cLine) : CallR X (.type "set") (rSetN X.K X.w) := by
  intro pins s σ H xs us Q I r h
  obtain ⟨l, ks, rfl, hl, hk, few, q⟩ := h
  rw [Vals.ref1 r]
  have hn : H s.heap.objs.size = none := I.hok.fresh (Nat.le_refl _)
  have keys : ∀ p ∈ ks.map (fun p => (p.1, tk p.2)), Key s.heap p.2 p.1 := fun p hp => by
    obtain ⟨z, hz, rfl⟩ := List.mem_map.mp hp
    exact (hk z hz).key I
  have few' : (ks.map fun p => (p.1, tk p.2)).length < 64 := by rw [List.length_map]; exact few
  have fin : ∀ (h' : Heap) (tk' : Nat) L es ep t, NSet X.w h' s.heap.objs.size L es ep t → Came (ks.map fun p => (p.1, tk p.2)) (ks.map fun p => (p.1, tk p.2)).length L → (∀ b o, s.heap.get? b = some o → h'.get? b = some o) →
      EP X pins σ Q (.ref s.heap.objs.size) { s with heap := h', toks := tk' } := fun h' tk' L es ep t R g k => by
    have sub : ∀ p ∈ L, p ∈ ks.map fun p => (p.1, tk p.2) := fun p hp => List.mem_of_mem_take (g.among p hp)
    obtain ⟨L0, in0, e0⟩ : ∃ L0 : List (Addr × PyData), (∀ p ∈ L0, p ∈ ks) ∧ L = L0.map fun p => (p.1, tk p.2) := by
      clear R g
      induction L with
      | nil => exact ⟨[], fun p hp => absurd hp List.not_mem_nil, rfl⟩
      | cons p L ih =>
        obtain ⟨L0, i0, e0⟩ := ih fun u m => sub u (List.mem_cons_of_mem _ m)
        obtain ⟨z, hz, e⟩ := List.mem_map.mp (sub p List.mem_cons_self)
        refine ⟨z :: L0, fun u hu => ?_, by rw [List.map_cons, ← e0, e]⟩
        rcases List.mem_cons.mp hu with y | y
        · rw [y]
          exact hz
        · exact i0 u y
    subst e0
    have nd : (L0.map (·.2)).Nodup := by
      have e := R.once
      rw [List.map_map] at e
      have e' : ((L0.map (·.2)).map tk).Nodup := by rw [List.map_map]; exact e
      exact List.Pairwise.of_map tk (fun _ _ hne z => hne (congrArg tk z)) e'
    refine ⟨.ref s.heap.objs.size, upd H s.heap.objs.size (SetNO X.w s.heap.objs.size L0), I.laid (t' := tk') k (Nat.le_refl _) (setNO_ok (setN_of R)), rfl, q _ L0 hn in0 (fun p hp => ?_) nd⟩
    have ev := g.every (p.1, tk p.2) (by
      rw [show (ks.map fun p => (p.1, tk p.2)).length = (ks.map fun p => (p.1, tk p.2)).length from rfl, List.take_length]
      exact List.mem_map.mpr ⟨p, hp, rfl⟩)
    obtain ⟨z, hz, e⟩ := List.mem_map.mp ev
    obtain ⟨y, hy, rfl⟩ := List.mem_map.mp hz
    have e2 : y.2 = p.2 := tk_inj _ _ (hk y (in0 y hy)).2.1 (hk p hp).2.1 e
    exact List.mem_map.mpr ⟨y, hy, e2⟩
  rcases hl with hl | hl
  · obtain ⟨its, rv, pl, hz⟩ := I.list hl
    exact call_set (P := X.prog) (w := X.w) (ks.map fun p => (p.1, tk p.2)) (I.ok.hd hc) pl.isList (by rw [List.map_map]; exact refs_of rv) keys few' (by omega) fin
  · obtain ⟨its, rv, pl, hz⟩ := I.tuple hl
    exact call_setT (P := X.prog) (w := X.w) (ks.map fun p => (p.1, tk p.2)) (I.ok.hd hc) (show s.heap.IsTuple l its.toArray from pl) (by rw [List.map_map]; exact refs_of rv) keys few' (by omega) fin
/-- sorted(such a set) -/
def rSortedN (K : PySem.W.Frag) (w : World) : List V → Hp → VK → Prop := fun vs H Q => ∃ (a : Addr) (L : List (Addr × PyData)), vs = [V.ref a] ∧ H a = some (SetNO w a L) ∧ (∀ p ∈ L, Kp K H p) ∧ AllAlike (L.map (·.2)) ∧ Sortable (L.map (·.2)) ∧
  ∀ (L' : List (Addr × PyData)) (p : Addr), L'.Perm L → L'.Pairwise (fun x y => le2 x y = true) → L'.length < 64 → H p = none → Q (.ref p) (upd H p (.lst (L'.map fun r => V.ref r.1)))
theorem cr_sortedN (hc : X.calm = true) (hu : X.A.units + 64 < cLine) : CallR X (.builtin "sorted") (rSortedN X.K X.w) := by
  intro pins s σ H vs us Q I r h
  obtain ⟨a, L, rfl, ha, hk, al, so, q⟩ := h
  obtain ⟨es, ep, t, ob, mk⟩ : SetN X.w s.heap a L := (I.hok a _ ha).1
  have R := mk s.heap ob fun p hp => (hk p hp).key I
  rw [Vals.ref1 r]
  refine sorted_set R (I.ok.hd hc) (by omega) (fun p hp => (dp_both I _ _ _ (hk p hp).1 (hk p hp).2.1 rfl).2) al so (fun p hp => (hk p hp).2.2) fun s' p out c L' k g o hp at' hout pm pw => ?_
  have few : L'.length < 64 := by
    have e := R.few
    rw [List.length_map] at e
    rw [pm.length_eq]
    exact e
  have hn : H p = none := I.hok.fresh hp
  have J : Inv X pins σ (upd H p (.lst (L'.map fun r => V.ref r.1))) { s with heap := s'.heap, gens := s'.gens, drawn := s'.drawn, toks := s'.toks } :=
    I.call (ch := []) (Un.laid k hp hn) (I.hok.laid k hp ⟨by rw [List.length_map, sizeLine_eq]; omega, out.toList, c, by rw [hout]; exact vals_refs L', at'⟩) (by rw [g]; exact I.bare) (fun _ z => nomatch z)
  have e : s' = { s with heap := s'.heap, gens := s'.gens, drawn := s'.drawn, toks := s'.toks } := by
    obtain ⟨a1, a2, a3, a4, a5⟩ := s'
    obtain rfl : a5 = s.os := o
    rfl
  rw [e]
  exact ⟨.ref p, _, J, rfl, q L' p pm pw few hn⟩
end
end Ns

namespace Gy
open PySem L2 PySem.Spec PyProof.Rows
/-! ### data of tuples alone -/
def Tups (H H' : Hp) : Prop := ∀ a xs, H a = some (.tup xs) → H' a = some (.tup xs)
theorem Tups.refl (H : Hp) : Tups H H := fun _ _ h => h
theorem Tups.trans {H1 H2 H3 : Hp} (h : Tups H1 H2) (h' : Tups H2 H3) : Tups H1 H3 := fun a xs e => h' a xs (h a xs e)
theorem Tups.same {H H' : Hp} (s : Same H H') : Tups H H' := fun a xs e => s a _ e
theorem Tups.ext {b : Addr} {H H' : Hp} {l : List V} (hb : H b = some (.lst l)) (e : Ext b H H') : Tups H H' := fun a xs h => e a _ (fun z => by rw [z, hb] at h; cases h) h
theorem Tups.put {H : Hp} {p : Addr} {o : HO} {l : List V} (hp : H p = some (.lst l)) : Tups H (upd H p o) := fun a xs h => by
  rw [upd_ne (fun z => by rw [z, hp] at h; cases h)]
  exact h
theorem Ext.trans' {b : Addr} {H H1 H2 : Hp} (e : Ext b H H1) (e' : Ext b H1 H2) : Ext b H H2 := fun a o n h => e' a o n (e a o n h)
theorem Ext.refl' (b : Addr) (H : Hp) : Ext b H H := fun _ _ _ h => h
theorem BagC.lst {c b : Addr} {H : Hp} (h : BagC c H b) : ∃ l, H b = some (.lst l) := by
  obtain ⟨x0, x1, x2, ns, h⟩ := h
  exact ⟨_, h.hb⟩
/-- where the bag stands, a new address is new -/
theorem Ext.dom' {b c : Addr} {B H : Hp} (e : Ext b B H) (B' : BagC c H b) (a : Addr) (n : H a = none) : B a = none := by
  cases q : B a with
  | none => rfl
  | some o =>
    by_cases z : a = b
    · obtain ⟨u, hu⟩ := B'.lst
      rw [z, hu] at n
      cases n
    · rw [e a o z q] at n
      cases n
theorem BagC.tups {c b : Addr} {H H' : Hp} (h : BagC c H b) (e : Ext b H H') : Tups H H' := let ⟨_, hb⟩ := h.lst; .ext hb e
mutual
def D.flat : D → Bool
  | .non => true
  | .bl _ => true
  | .int _ => true
  | .str _ => true
  | .tup ds => D.flatAll ds
  | .lst _ => false
  | .dic _ _ => false
  | .exc _ _ => false
def D.flatAll : List D → Bool
  | [] => true
  | d :: ds => d.flat && D.flatAll ds
end
mutual
theorem Rp.tups {K : PySem.W.Frag} {H H' : Hp} (s : Tups H H') : ∀ {v : V} {d : D}, Rp K H v d → d.flat = true → Rp K H' v d
  | _, _, .non, _ => .non
  | _, _, .bl b, _ => .bl b
  | _, _, .int i, _ => .int i
  | _, _, .str x, _ => .str x
  | _, _, .tup e r, h => .tup (s _ _ e) (RpAll.tups s r (by simpa only [D.flat] using h))
  | _, _, .lst _ _, h => by cases h
  | _, _, .dic _ _ _, h => by cases h
  | _, _, .exc _ _ _ _ _ _, h => by cases h
theorem RpAll.tups {K : PySem.W.Frag} {H H' : Hp} (s : Tups H H') : ∀ {vs : List V} {ds : List D}, RpAll K H vs ds → D.flatAll ds = true → RpAll K H' vs ds
  | _, _, .nil, _ => .nil
  | _, _, .cons r rs, h => by
    simp only [D.flatAll, Bool.and_eq_true] at h
    exact .cons (Rp.tups s r h.1) (RpAll.tups s rs h.2)
end
mutual
/-- as the library's data -/
def D.py : D → PyData
  | .non => .none
  | .bl b => .bool b
  | .int i => .int i
  | .str x => .str x
  | .tup ds => .tuple (D.pyAll ds)
  | .lst ds => .list (D.pyAll ds)
  | .dic _ _ => .none
  | .exc _ _ => .none
def D.pyAll : List D → List PyData
  | [] => []
  | d :: ds => d.py :: D.pyAll ds
end
mutual
def D.plain : D → Bool
  | .non => true
  | .bl _ => true
  | .int _ => true
  | .str _ => true
  | .tup ds => D.plainAll ds
  | .lst ds => D.plainAll ds
  | .dic _ _ => false
  | .exc _ _ => false
def D.plainAll : List D → Bool
  | [] => true
  | d :: ds => d.plain && D.plainAll ds
end
mutual
theorem Rp.dp {K : PySem.W.Frag} {H : Hp} : ∀ {v : V} {d : D}, Rp K H v d → d.plain = true → Dp K H v d.py
  | _, _, .non, _ => .non
  | _, _, .bl b, _ => .bl b
  | _, _, .int i, _ => .int i
  | _, _, .str x, _ => .str x
  | _, _, .tup e r, h => .tup (SqT.of e) (RpAll.dp r (by simpa only [D.plain] using h))
  | _, _, .lst e r, h => .lst (SqL.of e) (RpAll.dp r (by simpa only [D.plain] using h))
  | _, _, .dic _ _ _, h => by cases h
  | _, _, .exc _ _ _ _ _ _, h => by cases h
theorem RpAll.dp {K : PySem.W.Frag} {H : Hp} : ∀ {vs : List V} {ds : List D}, RpAll K H vs ds → D.plainAll ds = true → DpAll K H vs (D.pyAll ds)
  | _, _, .nil, _ => .nil
  | _, _, .cons r rs, h => by
    simp only [D.plainAll, Bool.and_eq_true] at h
    exact .cons (Rp.dp r h.1) (RpAll.dp rs h.2)
end
mutual
theorem flat_plain : ∀ (d : D), d.flat = true → d.plain = true
  | .non, _ => rfl
  | .bl _, _ => rfl
  | .int _, _ => rfl
  | .str _, _ => rfl
  | .tup ds, h => by simp only [D.flat] at h; simp only [D.plain, flat_plainAll ds h]
  | .lst _, h => by cases h
  | .dic _ _, h => by cases h
  | .exc _ _, h => by cases h
theorem flat_plainAll : ∀ (ds : List D), D.flatAll ds = true → D.plainAll ds = true
  | [], _ => rfl
  | d :: ds, h => by
    simp only [D.flatAll, Bool.and_eq_true] at h
    simp only [D.plainAll, flat_plain d h.1, flat_plainAll ds h.2, Bool.and_self]
end
/-! ### over a list or a tuple -/
section
variable {X : Cx} {tg : Expr}
def iSeq (K : PySem.W.Frag) (tl : TE) : TI := fun σ H R => tl σ H fun x H1 => ∃ a, x = .ref a ∧ (((∃ xs, SqL K H1 a xs) ∧ R (Itl K a) H1) ∨ ((∃ xs, SqT K H1 a xs) ∧ R (Itt K a) H1))
theorem pi_seq {l : Expr} {tl : TE} (hl : PE X l tl) : PI X tg l (iSeq X.K tl) := by
  refine ⟨fun pins s σ H R I h => thn (hl.run pins s σ H _ I h) fun v s1 z => ?_⟩
  obtain ⟨x, H1, I1, r1, a, rfl, q⟩ := z
  cases r1
  have ok : ∀ b ∈ [s1.heap.objs.size], FpOk X pins H1 b := fun b hb => by
    rw [List.mem_singleton.mp hb]
    exact I1.fpOk (Nat.le_refl _) (I1.hok.fresh (Nat.le_refl _))
  rcases q with ⟨⟨xs, hq⟩, q⟩ | ⟨⟨xs, hq⟩, q⟩
  · obtain ⟨its, rv, p, hz⟩ := I1.list hq
    exact wpAny_pyIter_list p.isList ⟨_, [_], _, _, H1, rfl, I1.kept (t' := s1.toks) fun b o e => Heap.get?_push_of_some _ e, turn_list a _, ⟨_, Heap.get?_push_size _ rfl, rfl, rfl⟩, ok, q⟩
  · obtain ⟨its, rv, p, hz⟩ := I1.tuple hq
    exact wpAny_pyIter_tuple (show s1.heap.IsTuple a its.toArray from p) ⟨_, [_], _, _, H1, rfl, I1.kept (t' := s1.toks) fun b o e => Heap.get?_push_of_some _ e, turn_tuple a _, ⟨_, Heap.get?_push_size _ rfl, rfl, rfl⟩, ok, q⟩
end
theorem for_seq {K : PySem.W.Frag} {a : Addr} {xs : List V} {g : TG} {tb : TS} {D : Ends} {σ : L2.St} {H : Hp} (Pv : Nat → L2.St → Hp → Prop) (h0 : Pv 0 σ H) (hk : (∀ i σ H, Pv i σ H → H a = some (.lst xs)) ∨ (∀ i σ H, Pv i σ H → H a = some (.tup xs)))
    (hb : ∀ i x σ H, xs[i]? = some x → Pv i σ H → g x σ H fun σ2 H2 => tb { D with nx := Pv (i + 1), ct := Pv (i + 1), bk := D.nx } σ2 H2) (hd : ∀ σ H, Pv xs.length σ H → D.nx σ H) :
    ((∃ xs, SqL K H a xs) ∧ ∃ W : Nat → Nat → L2.St → Hp → Prop, (∃ m, W 0 m σ H) ∧ ∀ i m σ H, W i m σ H →
      ((Itl K a).stop i H ∧ D.nx σ H) ∨ ((Itl K a).go i H ∧ ∃ N : L2.St → Hp → Prop, (∀ σ' H', N σ' H' → ∃ m', m' < m ∧ W (i + 1) m' σ' H') ∧ ∀ x H', (Itl K a).yld i H x H' → g x σ H' fun σ2 H2 => tb { D with nx := N, ct := N, bk := D.nx } σ2 H2)) ∨
    ((∃ xs, SqT K H a xs) ∧ ∃ W : Nat → Nat → L2.St → Hp → Prop, (∃ m, W 0 m σ H) ∧ ∀ i m σ H, W i m σ H →
      ((Itt K a).stop i H ∧ D.nx σ H) ∨ ((Itt K a).go i H ∧ ∃ N : L2.St → Hp → Prop, (∀ σ' H', N σ' H' → ∃ m', m' < m ∧ W (i + 1) m' σ' H') ∧ ∀ x H', (Itt K a).yld i H x H' → g x σ H' fun σ2 H2 => tb { D with nx := N, ct := N, bk := D.nx } σ2 H2)) := by
  rcases hk with h | h
  · exact .inl ⟨⟨_, SqL.of (h 0 σ H h0)⟩, for_list Pv h0 (fun i σ H _ p => SqL.of (h i σ H p)) hb hd⟩
  · exact .inr ⟨⟨_, SqT.of (h 0 σ H h0)⟩, for_tup Pv h0 (fun i σ H _ p => SqT.of (h i σ H p)) hb hd⟩
end Gy

namespace Gy
open PySem L2 PySem.Spec PyProof.Rows
abbrev sMixed : Stmt := top 29
/-- a new list of the same things, in some order -/
def spMixed : Sp := fun vs H Q _ => ∃ (b c a : Addr) (xs : List V), vs = [.ref b, .ref a] ∧ a ≠ b ∧ SqQ H a xs ∧ xs.length ≤ 1000 ∧ BagC c H b ∧
  ∀ (p : Addr) (H' : Hp) (ys : List V), Ext b H H' → BagC c H' b → H p = none → H' p = some (.lst ys) → ys.Perm xs → Q (.ref p) H'
theorem ext_put {b p : Addr} {H H' : Hp} {o : HO} (e : Ext b H H') (hp : H p = none) : Ext b H (upd H' p o) := fun a u h g => by
  rw [upd_ne (ne_of_none g hp)]
  exact e a u h g
theorem ext_new {b p : Addr} {H H' : Hp} {o : HO} (e : Ext b H H') (hp : H' p = none) : Ext b H (upd H' p o) := fun a u h g => by
  have g' := e a u h g
  rw [upd_ne (ne_of_none g' hp)]
  exact g'
theorem BagC.put {b c a : Addr} {H : Hp} {o : HO} (h : BagC c H b) (h1 : a ≠ b) (h2 : a ≠ c) : BagC c (upd H a o) b := by
  obtain ⟨x0, x1, x2, ns, h⟩ := h
  exact ⟨x0, x1, x2, ns, by rw [upd_ne (Ne.symm h1)]; exact h.hb, by rw [upd_ne (Ne.symm h2)]; exact h.hc, h.p0, h.p1, h.q1, h.p2, h.pc, h.lc⟩
theorem BagC.hbs {b c : Addr} {H : Hp} (h : BagC c H b) : ∃ o, H b = Option.some o := by
  obtain ⟨x0, x1, x2, ns, h⟩ := h
  exact ⟨_, h.hb⟩
theorem BagC.hcs {b c : Addr} {H : Hp} (h : BagC c H b) : ∃ o, H c = Option.some o := by
  obtain ⟨x0, x1, x2, ns, h⟩ := h
  exact ⟨_, h.hc⟩
theorem ne_at {H : Hp} {x y : Addr} (h : H x = none) (h' : ∃ o, H y = some o) : x ≠ y := fun z => by
  obtain ⟨o, h'⟩ := h'
  rw [z, h'] at h
  cases h
theorem ins_perm {α : Type} (l : List α) (p : Nat) (x : α) : (l.take p ++ [x] ++ l.drop p).Perm (l ++ [x]) := by
  have h : (l.take p ++ ([x] ++ l.drop p)).Perm (l.take p ++ (l.drop p ++ [x])) := List.Perm.append_left _ List.perm_append_comm
  rw [← List.append_assoc, ← List.append_assoc, List.take_append_drop] at h
  exact h
section
variable {P : Program} {w : World} {K : PySem.W.Frag} {mg : Str → Option Value} {base : Heap}
theorem scMixed : FnScope ["_law_bag_here", "_law_things", "_law_found", "_law_thing"] ["_law_bag_here", "_law_things"] (defScope sMixed) := ⟨rfl, rfl, rfl, by decide +kernel, rfl, by decide +kernel, by decide +kernel⟩
theorem ok_mixed {f fT : Addr} {fd fdT : FuncData} (F : Fun K "_law_mixed" "_law_mixed" sMixed f fd) (T : TxtB K mg fT) (FT : Fun K "_law_take" "_law_take" sTake fT fdT) (bT : L2.Binds K fdT ["_law_bag_here", "_law_upto"] []) :
    FnOk P w K mg base CX0 2 f fd ["_law_bag_here", "_law_things"] spMixed := by
  have GT : FnOk P w K mg base CX0 1 fT fdT ["_law_bag_here", "_law_upto"] spTake := ok_take FT T.a
  refine F.ok scMixed (fun vs H Q E h => ?_) (fun cdv A outer s H vs Q E hr h => ?_)
  · obtain ⟨b, c, a, xs, rfl, _⟩ := h
    rfl
  · obtain ⟨b, c, a, xs, rfl, nab, hs, hx, B, k⟩ := h
    have nd := scMixed.nd
    refine ⟨_, pss_cons (ps_set (i := 2) nd rfl (Or.inl rfl) (pe_lst pa_nil))
      (pss_cons (ps_for PassesOwn.never rfl (pi_seq (pv 1)) (pg_name (i := 3) nd rfl (Or.inl rfl))
        (pss_one (ps_expr (by exact (pe_bm PySem.F.plainAttrs_list PySem.F.slot_list_insert PySem.F.type_list_insert mt_insert (pv 2)
          (pa_cons (pe_call GT hr rfl T.gT T.kT bT .nil pass0 (pa_cons (pv 0) (pa_cons (pe_op op_add (pe_callB call_len_seq (by rfl) T.a.len PySem.boot_len (pa_cons (pv 2) pa_nil)) pe_int) pa_nil))) (pa_cons (pv 3) pa_nil)))))))
      (pss_one (ps_ret (pv 2)))), ?_⟩
    refine ⟨Nat.zero_le _, fun p np => ?_⟩
    have nbp : p ≠ b := ne_at np B.hbs
    have ncp : p ≠ c := ne_at np B.hcs
    have nap : a ≠ p := fun z => by
      rcases hs with h | h <;> (rw [z, np] at h; cases h)
    refine ⟨_, rfl, a, rfl, for_seq (xs := xs) (fun i σ' H' => (∃ x, σ' = [some (.ref b), some (.ref a), some (.ref p), x]) ∧ Ext b H H' ∧ BagC c H' b ∧ (∀ o, H a = some o → H' a = some o) ∧ ∃ ys, H' p = some (.lst ys) ∧ ys.Perm (xs.take i))
      ⟨⟨none, rfl⟩, ext_put (fun _ _ _ h => h) np, B.put nbp ncp, fun o h => by rw [upd_ne nap]; exact h, [], upd_same, by simp⟩ ?_ ?_ ?_⟩
    · rcases hs with h | h
      · exact .inl fun i σ H' z => z.2.2.2.1 _ h
      · exact .inr fun i σ H' z => z.2.2.2.1 _ h
    · rintro i x σ' H' hi ⟨⟨x3, rfl⟩, e, B', ka, ys, hy, pm⟩
      have il : i < xs.length := (List.getElem?_eq_some_iff.mp hi).1
      have yl : ys.length ≤ 1000 := by rw [pm.length_eq, List.length_take]; omega
      refine ⟨_, rfl, .inl ⟨rfl, _, SqL.of hy⟩, _, rfl, _, rfl, p, ys, rfl, .inl (SqL.of hy), ys.length, 1, rfl, rfl, b, c, _, rfl, by omega, by omega, B', fun r H2 r0 r1 e2 B2 => ⟨_, rfl, p, ys, r, x, rfl, rfl, ?_, by rw [sizeLine_eq]; omega, r0, by omega, ?_⟩⟩
      · exact e2 p _ nbp hy
      · refine ⟨⟨_, rfl⟩, ?_, B2.put nbp ncp, fun o h => ?_, _, upd_same, (ins_perm ys r.toNat x).trans ?_⟩
        · exact ext_put (e.trans' e2) np
        · rw [upd_ne nap]
          exact e2 a o nab (ka o h)
        · rw [List.take_succ, hi]
          exact pm.append_right _
    · rintro σ' H' ⟨⟨x3, rfl⟩, e, B', ka, ys, hy, pm⟩
      rw [List.take_length] at pm
      exact ⟨_, rfl, k p H' ys e B' np hy pm⟩
end
end Gy

namespace Gy
open PySem L2 PySem.Spec PyProof.Rows
abbrev sNamed : Stmt := top 30
/-- the names that are drawn from -/
def menu : List Str := ["a", "b", "c", "p", "q", "r", "ab", "ba", "zz", "abcdefgh", "row", "kind", "tell", "ever", "z"]
theorem menu_nodup : menu.Nodup := by decide +kernel
/-- so many names, ascending -/
structure Names (ns : List Str) (m : Nat) : Prop where
  len : ns.length = min m 15
  nd : ns.Nodup
  asc : sortedS ns = true
  mem : ∀ x ∈ ns, x ∈ menu
theorem cut_take (xs : List V) (m : Nat) : cutV xs none (some (m : Int)) = xs.take m := by
  unfold cutV
  rw [show HT.sIx xs.length 0 none = 0 from rfl, HT.sIx_nat, List.drop_zero, Nat.sub_zero]
  rcases Nat.le_total m xs.length with h | h
  · rw [Nat.min_eq_left h]
  · rw [Nat.min_eq_right h, List.take_length, List.take_of_length_le h]
theorem rp_strs {K : PySem.W.Frag} {H : Hp} : ∀ {ss : List Str} {xs : List V}, RpAll K H xs (ss.map D.str) → xs = ss.map V.str
  | [], _, .nil => rfl
  | s :: ss, _, .cons r rs => by
    cases r
    rw [rp_strs rs]
    rfl
theorem litMenu : Lit (valOf (bodyAt sNamed 0)) (.lst (menu.map D.str)) := by
  refine Lit.lst ?_ (Nat.le_of_ble_eq_true rfl)
  exact .cons .str (.cons .str (.cons .str (.cons .str (.cons .str (.cons .str (.cons .str (.cons .str (.cons .str (.cons .str (.cons .str (.cons .str (.cons .str (.cons .str (.cons .str .nil))))))))))))))
def spNamed : Sp := fun vs H Q _ => ∃ (b c : Addr) (m : Nat), vs = [.ref b, .int m] ∧ BagC c H b ∧
  ∀ (p : Addr) (H' : Hp) (ns : List Str), Ext b H H' → BagC c H' b → H p = none → H' p = some (.tup (ns.map V.str)) → Names ns m → Q (.ref p) H'
structure TxtN (K : PySem.W.Frag) (mg : Str → Option Value) (fT fM : Addr) (fdM : FuncData) : Prop where
  b : TxtB K mg fT
  gM : mg "_law_mixed" = some (.ref fM)
  bM : L2.Binds K fdM ["_law_bag_here", "_law_things"] []
  kM : PySem.W.keepIn K (.ref fM) = true
  tup : mg "tuple" = none
  srt : mg "sorted" = none
section
variable {P : Program} {w : World} {K : PySem.W.Frag} {mg : Str → Option Value} {base : Heap}
theorem scNamed : FnScope ["_law_bag_here", "_law_many", "_law_names"] ["_law_bag_here", "_law_many"] (defScope sNamed) := ⟨rfl, rfl, rfl, by decide +kernel, rfl, by decide +kernel, by decide +kernel⟩
theorem ok_named {f fT fM : Addr} {fd fdM : FuncData} (F : Fun K "_law_named" "_law_named" sNamed f fd) (T : TxtN K mg fT fM fdM) (GM : FnOk P w K mg base CX0 2 fM fdM ["_law_bag_here", "_law_things"] spMixed) :
    FnOk P w K mg base CX0 3 f fd ["_law_bag_here", "_law_many"] spNamed := by
  refine F.ok scNamed (fun vs H Q E h => ?_) (fun cdv A outer s H vs Q E hr h => ?_)
  · obtain ⟨b, c, m, rfl, _⟩ := h
    rfl
  · obtain ⟨b, c, m, rfl, B, k⟩ := h
    have nd := scNamed.nd
    refine ⟨_, pss_cons (ps_set (i := 2) nd rfl (Or.inl rfl) (pe_lit lit_star litMenu))
      (pss_one (ps_ret (pe_tupleOf (by rfl) T.tup (pe_callB cr_sortedS (by rfl) T.srt (by decide +kernel) (pa_cons (pe_slice sl_list (pe_call GM hr rfl T.gM T.kM T.bM .nil pass0 (pa_cons (pv 0) (pa_cons (pv 2) pa_nil))) po_none (po_some (pv 1))) pa_nil))))), ?_⟩
    intro v0 H1 s1 o1
    obtain ⟨a, xs, rfl, na, ea, wa⟩ := o1.lst_inv
    have ex : xs = menu.map V.str := rp_strs (wa H1 (Keeps.refl _ _))
    have nab : a ≠ b := ne_at na B.hbs
    refine ⟨_, rfl, _, rfl, b, c, a, xs, rfl, nab, .inl ea, by rw [ex, List.length_map]; decide, B.same s1, fun p H2 ys e2 B2 np hp pm => ?_⟩
    obtain ⟨zs, pz, rfl⟩ := Ns.perm_back V.str pm ex
    have lz : zs.length = 15 := pz.length_eq
    refine ⟨_, rfl, m, rfl, p, zs.map V.str, rfl, SqL.of hp, fun q nq => ?_⟩
    rw [cut_take, ← List.map_take]
    have l63 : (zs.take m).length < 64 := by rw [List.length_take]; omega
    have s3 : Same H2 (upd H2 q (.lst ((zs.take m).map V.str))) := same_new (Same.refl H2) nq
    have e3 : upd H2 q (.lst ((zs.take m).map V.str)) q = some (.lst ((zs.take m).map V.str)) := upd_same
    generalize upd H2 q (.lst ((zs.take m).map V.str)) = H3 at s3 e3
    refine ⟨q, zs.take m, rfl, SqL.of e3, l63, fun ws r pw sw nr => .inl ⟨r, _, rfl, SqL.of upd_same, fun t nt => ?_⟩⟩
    have s4 : Same H3 (upd H3 r (.lst (ws.map V.str))) := same_new (Same.refl H3) nr
    generalize upd H3 r (.lst (ws.map V.str)) = H4 at s4 nt
    have s5 : Same H4 (upd H4 t (.tup (ws.map V.str))) := same_new (Same.refl H4) nt
    have s24 := s3.trans s4
    have E4 : Ext b H H4 := ((ext_same s1).trans' e2).trans' (ext_same s24)
    refine k t _ ws (E4.trans' (ext_same s5)) (B2.same (s24.trans s5)) (E4.dom' (B2.same s24) t nt) upd_same ⟨by rw [pw.length_eq, List.length_take, lz], pw.nodup_iff.mpr ((pz.nodup_iff.mpr menu_nodup).sublist (List.take_sublist _ _)), sw, fun x hx => pz.mem_iff.mp (List.mem_of_mem_take (pw.mem_iff.mp hx))⟩
end
end Gy

namespace Gy
open PySem L2 PySem.Spec PyProof.Rows
open PySem.W (AllAlike Sortable dataLe alike alikeAll)
mutual
/-- data fit for a key: no truths -/
def D.key : D → Bool
  | .non => true
  | .int _ => true
  | .str _ => true
  | .tup ds => D.keyAll ds
  | .bl _ => false
  | .lst _ => false
  | .dic _ _ => false
  | .exc _ _ => false
def D.keyAll : List D → Bool
  | [] => true
  | d :: ds => d.key && D.keyAll ds
end
mutual
theorem key_kb : ∀ d : D, d.key = true → Ns.kb d.py = true ∧ d.flat = true ∧ d.py.depth = d.depth
  | .non, _ => ⟨rfl, rfl, rfl⟩
  | .int _, _ => ⟨rfl, rfl, rfl⟩
  | .str _, _ => ⟨rfl, rfl, rfl⟩
  | .tup ds, h => by
    simp only [D.key] at h
    obtain ⟨h1, h2, h3⟩ := key_kbAll ds h
    exact ⟨by simp only [D.py, Ns.kb, h1], by simp only [D.flat, h2], by simp only [D.py, PyData.depth, D.depth, h3]⟩
  | .bl _, h => by cases h
  | .lst _, h => by cases h
  | .dic _ _, h => by cases h
  | .exc _ _, h => by cases h
theorem key_kbAll : ∀ ds : List D, D.keyAll ds = true → Ns.kbAll (D.pyAll ds) = true ∧ D.flatAll ds = true ∧ PyData.depthAll (D.pyAll ds) = D.depthAll ds
  | [], _ => ⟨rfl, rfl, rfl⟩
  | d :: ds, h => by
    simp only [D.keyAll, Bool.and_eq_true] at h
    obtain ⟨h1, h2, h3⟩ := key_kb d h.1
    obtain ⟨g1, g2, g3⟩ := key_kbAll ds h.2
    exact ⟨by simp only [D.pyAll, Ns.kbAll, h1, g1, Bool.and_self], by simp only [D.flatAll, h2, g2, Bool.and_self], by simp only [D.pyAll, PyData.depthAll, D.depthAll, h3, g3]⟩
end
mutual
theorem py_inj : ∀ d e : D, d.key = true → e.key = true → d.py = e.py → d = e
  | .non, .non, _, _, _ => rfl
  | .int _, .int _, _, _, h => by simp only [D.py, PyData.int.injEq] at h; rw [h]
  | .str _, .str _, _, _, h => by simp only [D.py, PyData.str.injEq] at h; rw [h]
  | .tup ds, .tup es, h1, h2, h => by
    simp only [D.py, PyData.tuple.injEq] at h
    simp only [D.key] at h1 h2
    rw [py_injAll ds es h1 h2 h]
  | .non, .int _, _, _, h => by cases h
  | .non, .str _, _, _, h => by cases h
  | .non, .tup _, _, _, h => by cases h
  | .int _, .non, _, _, h => by cases h
  | .int _, .str _, _, _, h => by cases h
  | .int _, .tup _, _, _, h => by cases h
  | .str _, .non, _, _, h => by cases h
  | .str _, .int _, _, _, h => by cases h
  | .str _, .tup _, _, _, h => by cases h
  | .tup _, .non, _, _, h => by cases h
  | .tup _, .int _, _, _, h => by cases h
  | .tup _, .str _, _, _, h => by cases h
  | .bl _, _, h, _, _ => by cases h
  | .lst _, _, h, _, _ => by cases h
  | .dic _ _, _, h, _, _ => by cases h
  | .exc _ _, _, h, _, _ => by cases h
  | _, .bl _, _, h, _ => by cases h
  | _, .lst _, _, h, _ => by cases h
  | _, .dic _ _, _, h, _ => by cases h
  | _, .exc _ _, _, h, _ => by cases h
theorem py_injAll : ∀ ds es : List D, D.keyAll ds = true → D.keyAll es = true → D.pyAll ds = D.pyAll es → ds = es
  | [], [], _, _, _ => rfl
  | d :: ds, e :: es, h1, h2, h => by
    simp only [D.keyAll, Bool.and_eq_true] at h1 h2
    simp only [D.pyAll, List.cons.injEq] at h
    rw [py_inj d e h1.1 h2.1 h.1, py_injAll ds es h1.2 h2.2 h.2]
  | [], _ :: _, _, _, h => by cases h
  | _ :: _, [], _, _, h => by cases h
end
/-- the order that sorted goes by -/
abbrev leD : D → D → Bool := dataLe false D.py
/-- es: ds, alike ones once, ascending -/
structure Once (ds es : List D) : Prop where
  sub : ∀ d ∈ es, d ∈ ds
  all : ∀ d ∈ ds, d ∈ es
  nd : es.Nodup
  asc : es.Pairwise fun x y => leD x y = true
  len : es.length < 64
/-- tuples that can be in a set and sorted -/
structure Fit (ds : List D) : Prop where
  key : ∀ d ∈ ds, d.key = true
  dep : ∀ d ∈ ds, d.depth ≤ 8
  tup : ∀ d ∈ ds, ∃ x r, d = .tup (x :: r)
  al : ∀ d ∈ ds, ∀ e ∈ ds, alike d.py e.py = true
  len : ds.length < 64
theorem rp_tups {K : PySem.W.Frag} {H : Hp} : ∀ {vs : List V} {ds : List D}, RpAll K H vs ds → (∀ d ∈ ds, ∃ x r, d = .tup (x :: r)) → ∃ ks : List (Addr × D), vs = ks.map (fun p => V.ref p.1) ∧ ks.map (·.2) = ds ∧ ∀ p ∈ ks, Rp K H (.ref p.1) p.2
  | _, _, .nil, _ => ⟨[], rfl, rfl, fun p m => absurd m List.not_mem_nil⟩
  | _, d :: ds, .cons r rs, h => by
    obtain ⟨ks, e1, e2, e3⟩ := rp_tups rs fun d m => h d (List.mem_cons_of_mem _ m)
    obtain ⟨x, q, rfl⟩ := h d List.mem_cons_self
    cases r with
    | @tup a xs _ e r' =>
      refine ⟨(a, .tup (x :: q)) :: ks, by rw [List.map_cons, e1], by rw [List.map_cons, e2], fun p m => ?_⟩
      rcases List.mem_cons.mp m with z | z
      · rw [z]
        exact .tup e r'
      · exact e3 p z
theorem back_map {α β : Type} (f : α → β) {ks : List α} : ∀ {L : List β}, (∀ p ∈ L, p ∈ ks.map f) → ∃ L0 : List α, (∀ p ∈ L0, p ∈ ks) ∧ L = L0.map f
  | [], _ => ⟨[], fun p m => absurd m List.not_mem_nil, rfl⟩
  | p :: L, h => by
    obtain ⟨L0, i0, e0⟩ := back_map f (L := L) fun u m => h u (List.mem_cons_of_mem _ m)
    obtain ⟨z, hz, e⟩ := List.mem_map.mp (h p List.mem_cons_self)
    refine ⟨z :: L0, fun u hu => ?_, by rw [List.map_cons, ← e0, e]⟩
    rcases List.mem_cons.mp hu with y | y
    · rw [y]
      exact hz
    · exact i0 u y
theorem rp_of_refs {K : PySem.W.Frag} {H : Hp} : ∀ {ks : List (Addr × D)}, (∀ p ∈ ks, Rp K H (.ref p.1) p.2) → RpAll K H (ks.map fun p => V.ref p.1) (ks.map (·.2))
  | [], _ => .nil
  | p :: ks, h => .cons (h p List.mem_cons_self) (rp_of_refs fun q m => h q (List.mem_cons_of_mem _ m))
def toP (p : Addr × D) : Addr × PyData := (p.1, p.2.py)
/-- tuple(sorted(set(x))) -/
abbrev tOnce (K : PySem.W.Frag) (w : World) (te : TE) : TE := tThen (tCB (Ns.rSortedN K w) (tCons (tCB (Ns.rSetN K w) (tCons te tNil)) tNil)) (kTup K)
theorem kp_of {K : PySem.W.Frag} {H : Hp} {p : Addr × D} (r : Rp K H (.ref p.1) p.2) (hk : p.2.key = true) (hd : p.2.depth ≤ 8) : Ns.Kp K H (toP p) := by
  obtain ⟨h1, h2, h3⟩ := key_kb p.2 hk
  exact ⟨r.dp (flat_plain _ h2), h1, by show p.2.py.depth ≤ 8; rw [h3]; exact hd⟩
theorem once_go {K : PySem.W.Frag} {w : World} {H : Hp} {l : Addr} {vs : List V} {ds : List D} {Q : VK} (hl : SqQ H l vs) (r : RpAll K H vs ds) (f : Fit ds)
    (k : ∀ p H' vs' es, Same H H' → H p = none → H' p = some (.tup vs') → RpAll K H' vs' es → Once ds es → Q (.ref p) H') :
    Ns.rSetN K w [.ref l] H fun y H1 => Ns.rSortedN K w [y] H1 fun z H2 => kTup K z H2 Q := by
  obtain ⟨ks, e1, e2, e3⟩ := rp_tups r f.tup
  have mem : ∀ p ∈ ks, p.2 ∈ ds := fun p hp => by rw [← e2]; exact List.mem_map_of_mem hp
  have lk : ks.length < 64 := by
    have e := congrArg List.length e2
    rw [List.length_map] at e
    rw [e]
    exact f.len
  refine ⟨l, ks.map toP, rfl, ?_, fun p hp => ?_, by rw [List.length_map]; exact lk, fun a L na sub all nd => ?_⟩
  · rw [List.map_map]
    rw [e1] at hl
    exact hl.seq
  · obtain ⟨z, hz, rfl⟩ := List.mem_map.mp hp
    exact kp_of (e3 z hz) (f.key _ (mem z hz)) (f.dep _ (mem z hz))
  obtain ⟨L0, in0, rfl⟩ := back_map toP sub
  have s1 : Same H (upd H a (Ns.SetNO w a (L0.map toP))) := same_new (Same.refl H) na
  have h1 : upd H a (Ns.SetNO w a (L0.map toP)) a = some (Ns.SetNO w a (L0.map toP)) := upd_same
  generalize upd H a (Ns.SetNO w a (L0.map toP)) = H1 at s1 h1
  have snd : ∀ d ∈ (L0.map toP).map (·.2), ∃ e ∈ ds, d = e.py := fun d hd => by
    rw [List.map_map] at hd
    obtain ⟨z, hz, rfl⟩ := List.mem_map.mp hd
    exact ⟨z.2, mem z (in0 z hz), rfl⟩
  refine ⟨a, L0.map toP, rfl, h1, fun p hp => ?_, fun d hd d' hd' => ?_, .inl fun d hd => ?_, fun L' p pm asc len np => .inl ⟨p, _, rfl, SqL.of upd_same, fun q nq => ?_⟩⟩
  · obtain ⟨z, hz, rfl⟩ := List.mem_map.mp hp
    exact kp_of ((e3 z (in0 z hz)).same s1) (f.key _ (mem z (in0 z hz))) (f.dep _ (mem z (in0 z hz)))
  · obtain ⟨e, he, rfl⟩ := snd d hd
    obtain ⟨e', he', rfl⟩ := snd d' hd'
    exact f.al e he e' he'
  · obtain ⟨e, he, rfl⟩ := snd d hd
    obtain ⟨x, r, rfl⟩ := f.tup e he
    exact ⟨x.py, D.pyAll r, rfl⟩
  obtain ⟨M0, pM, rfl⟩ := Ns.perm_back toP pm rfl
  have s2 : Same H1 (upd H1 p (.lst ((M0.map toP).map fun r => V.ref r.1))) := same_new (Same.refl H1) np
  generalize upd H1 p (.lst ((M0.map toP).map fun r => V.ref r.1)) = H2 at s2 nq
  have s3 : Same H2 (upd H2 q (.tup ((M0.map toP).map fun r => V.ref r.1))) := same_new (Same.refl H2) nq
  have st := (s1.trans s2).trans s3
  have inM : ∀ p ∈ M0, p ∈ ks := fun p hp => in0 p (pM.mem_iff.mp hp)
  have er : (M0.map toP).map (fun r => V.ref r.1) = M0.map fun p => V.ref p.1 := by
    rw [List.map_map]
    rfl
  refine k q _ ((M0.map toP).map fun r => V.ref r.1) (M0.map (·.2)) st ((s1.trans s2).free nq) upd_same ?_ ⟨fun d hd => ?_, fun d hd => ?_, ?_, ?_, by rw [List.length_map] at len ⊢; exact len⟩
  · have q := rp_of_refs fun p hp => (e3 p (inM p hp)).same st
    rw [← er] at q
    exact q
  · obtain ⟨z, hz, rfl⟩ := List.mem_map.mp hd
    exact mem z (inM z hz)
  · rw [← e2] at hd
    obtain ⟨z, hz, rfl⟩ := List.mem_map.mp hd
    have q := all (toP z) (List.mem_map_of_mem hz)
    rw [List.map_map] at q
    obtain ⟨y, hy, e⟩ := List.mem_map.mp q
    have ey : y.2 = z.2 := py_inj _ _ (f.key _ (mem y (in0 y hy))) (f.key _ (mem z hz)) e
    exact List.mem_map.mpr ⟨y, pM.mem_iff.mpr hy, ey⟩
  · have n1 : ((M0.map (·.2)).map D.py).Nodup := by
      have n2 := ((pM.map toP).map (·.2)).nodup_iff.mpr nd
      rw [List.map_map] at n2
      rw [List.map_map]
      exact n2
    exact List.Pairwise.of_map D.py (fun _ _ hne z => hne (congrArg D.py z)) n1
  · rw [List.pairwise_map] at asc ⊢
    exact asc
end Gy

namespace Gy
open PySem L2 PySem.Spec PyProof.Rows
open PySem.W (AllAlike Sortable dataLe alike alikeAll)
/-! ### needs, grounds -/
inductive Nd where
  | row (r : Str) (t m : Int)
  | knd (n : Str) (a t m : Int)
def Nd.d : Nd → D
  | .row r t m => .tup [.str "row", .str r, .int t, .int m]
  | .knd n a t m => .tup [.str "kind", .str n, .int a, .int t, .int m]
def Nd.ok (rows names : List Str) : Nd → Prop
  | .row r t m => r ∈ rows ∧ (0 ≤ t ∧ t ≤ 4) ∧ (0 ≤ m ∧ m ≤ 9)
  | .knd n a t m => n ∈ names ∧ (1 ≤ a ∧ a ≤ 9) ∧ (0 ≤ t ∧ t ≤ 4) ∧ (0 ≤ m ∧ m ≤ 9)
theorem Nd.d_inj : ∀ {x y : Nd}, x.d = y.d → x = y
  | .row _ _ _, .row _ _ _, h => by
    simp only [Nd.d, D.tup.injEq, List.cons.injEq, D.str.injEq, D.int.injEq] at h
    obtain ⟨_, h1, h2, h3, _⟩ := h
    rw [h1, h2, h3]
  | .knd _ _ _ _, .knd _ _ _ _, h => by
    simp only [Nd.d, D.tup.injEq, List.cons.injEq, D.str.injEq, D.int.injEq] at h
    obtain ⟨_, h1, h2, h3, h4, _⟩ := h
    rw [h1, h2, h3, h4]
  | .row _ _ _, .knd _ _ _ _, h => by simp [Nd.d] at h
  | .knd _ _ _ _, .row _ _ _, h => by simp [Nd.d] at h
theorem Nd.key (x : Nd) : x.d.key = true ∧ x.d.depth ≤ 8 ∧ (∃ y r, x.d = .tup (y :: r)) := by
  cases x with
  | row r t m => exact ⟨rfl, by show 1 ≤ 8; decide, _, _, rfl⟩
  | knd n a t m => exact ⟨rfl, by show 1 ≤ 8; decide, _, _, rfl⟩
theorem Nd.al (x y : Nd) : alike x.d.py y.d.py = true := by
  cases x <;> cases y <;> simp [Nd.d, D.py, D.pyAll, alike, alikeAll]
def gd (g : List Nd) : D := .tup (g.map Nd.d)
/-- a ground: at most n needs, ascending -/
structure GOk (rows names : List Str) (n : Nat) (g : List Nd) : Prop where
  ne : g ≠ []
  len : g.length ≤ n
  ok : ∀ x ∈ g, x.ok rows names
  nd : g.Nodup
  asc : (g.map Nd.d).Pairwise fun x y => leD x y = true
theorem fit_nds {g : List Nd} (h : g.length < 64) : Fit (g.map Nd.d) := {
  key := fun d hd => by
    obtain ⟨x, _, rfl⟩ := List.mem_map.mp hd
    exact x.key.1
  dep := fun d hd => by
    obtain ⟨x, _, rfl⟩ := List.mem_map.mp hd
    exact x.key.2.1
  tup := fun d hd => by
    obtain ⟨x, _, rfl⟩ := List.mem_map.mp hd
    exact x.key.2.2
  al := fun d hd e he => by
    obtain ⟨x, _, rfl⟩ := List.mem_map.mp hd
    obtain ⟨y, _, rfl⟩ := List.mem_map.mp he
    exact x.al y
  len := by rw [List.length_map]; exact h }
theorem nodup_sub {α : Type} : ∀ {l m : List α}, l.Nodup → (∀ x ∈ l, x ∈ m) → l.length ≤ m.length
  | [], _, _, _ => Nat.zero_le _
  | x :: l, m, n, h => by
    obtain ⟨n1, n2⟩ := List.nodup_cons.mp n
    obtain ⟨u, v, rfl⟩ := List.append_of_mem (h x List.mem_cons_self)
    have q := nodup_sub (m := u ++ v) n2 fun y hy => by
      have hm := h y (List.mem_cons_of_mem _ hy)
      rcases List.mem_append.mp hm with z | z
      · exact List.mem_append_left _ z
      · rcases List.mem_cons.mp z with e | z
        · rw [e] at hy
          exact absurd hy n1
        · exact List.mem_append_right _ z
    rw [List.length_append] at q
    rw [List.length_cons, List.length_append, List.length_cons]
    omega
theorem once_gok {rows names : List Str} {g : List Nd} {es : List D} {n : Nat} (hn : g.length ≤ n) (ne : g ≠ []) (ok : ∀ x ∈ g, x.ok rows names) (o : Once (g.map Nd.d) es) : ∃ g', es = g'.map Nd.d ∧ GOk rows names n g' := by
  obtain ⟨g', ig, rfl⟩ := back_map Nd.d o.sub
  have nd : g'.Nodup := List.Pairwise.of_map Nd.d (fun _ _ hne z => hne (congrArg Nd.d z)) o.nd
  refine ⟨g', rfl, ⟨fun z => ?_, Nat.le_trans (nodup_sub nd ig) hn, fun x hx => ok x (ig x hx), nd, o.asc⟩⟩
  obtain ⟨x, l, rfl⟩ := List.exists_cons_of_ne_nil ne
  have q := o.all _ (List.mem_map_of_mem (List.mem_cons_self (a := x) (l := l)))
  rw [z] at q
  cases q
/-! ### choosing -/
section
variable {K : PySem.W.Frag} {σ : L2.St} {i : Nat} {b c : Addr} {H : Hp} {Q : VK} {ta : TA}
theorem some_read {G : V → Prop} (hb : σ[i]? = some (some (.ref b))) (ht : ∀ Q' : List V → Hp → Prop, (∀ vs H', Ext b H H' → BagC c H' b → vs ≠ [] → vs.length ≤ 1000 → (∀ v ∈ vs, G v) → Q' vs H') → ta σ H Q')
    (k : ∀ v H', G v → Ext b H H' → BagC c H' b → Q v H') : tCall (spSome K) [] E0 (tCons (tVar i) (tCons (tLst ta) tNil)) σ H Q := by
  refine ⟨_, hb, ht _ fun vs H' e B ne len all => ⟨by rw [sizeLine_eq]; omega, fun p np => ?_⟩⟩
  have s : Same H' (upd H' p (.lst vs)) := same_new (Same.refl H') np
  exact ⟨b, c, p, vs, rfl, ne_at np B.hbs, .inl upd_same, List.length_pos_iff.mpr ne, by omega, B.same s, fun v H2 hv e2 B2 => k v H2 (all v hv) ((e.trans' (ext_same s)).trans' e2) B2⟩
theorem some_const {vs : List V} {G : V → Prop} (hb : σ[i]? = some (some (.ref b))) (B : BagC c H b) (ht : ∀ Q' : List V → Hp → Prop, Q' vs H → ta σ H Q') (ne : vs ≠ []) (len : vs.length ≤ 1000) (all : ∀ v ∈ vs, G v)
    (k : ∀ v H', G v → Ext b H H' → BagC c H' b → Q v H') : tCall (spSome K) [] E0 (tCons (tVar i) (tCons (tLst ta) tNil)) σ H Q :=
  some_read hb (fun Q' q => ht Q' (q vs H (Ext.refl' b H) B ne len all)) k
end
def IntIn (lo hi : Int) (v : V) : Prop := ∃ z : Int, v = .int z ∧ lo ≤ z ∧ z ≤ hi
theorem ints_in {lo hi : Int} {ns : List Int} (h : ∀ n ∈ ns, lo ≤ n ∧ n ≤ hi) : ∀ v ∈ ns.map V.int, IntIn lo hi v := fun v hv => by
  obtain ⟨z, hz, rfl⟩ := List.mem_map.mp hv
  exact ⟨z, rfl, h z hz⟩
abbrev sNumbers : Stmt := top 31
def spNumbers : Sp := fun vs H Q _ => ∃ (b c : Addr), vs = [.ref b] ∧ BagC c H b ∧
  ∀ (p : Addr) (H' : Hp) (a t m : Int), Ext b H H' → BagC c H' b → H p = none → H' p = some (.tup [.int a, .int t, .int m]) → 1 ≤ a → a ≤ 9 → 0 ≤ t → t ≤ 4 → 0 ≤ m → m ≤ 9 → Q (.ref p) H'
structure TxtG (K : PySem.W.Frag) (mg : Str → Option Value) (fT fS : Addr) (fdS : FuncData) : Prop where
  b : TxtB K mg fT
  gS : mg "_law_some" = some (.ref fS)
  bS : L2.Binds K fdS ["_law_bag_here", "_law_things"] []
  kS : PySem.W.keepIn K (.ref fS) = true
section
variable {P : Program} {w : World} {K : PySem.W.Frag} {mg : Str → Option Value} {base : Heap}
theorem scNumbers : FnScope ["_law_bag_here", "_law_most"] ["_law_bag_here"] (defScope sNumbers) := ⟨rfl, rfl, rfl, by decide +kernel, rfl, by decide +kernel, by decide +kernel⟩
theorem ok_numbers {f fT fS : Addr} {fd fdT fdS : FuncData} (F : Fun K "_law_numbers" "_law_numbers" sNumbers f fd) (T : TxtG K mg fT fS fdS) (GS : FnOk P w K mg base CX0 2 fS fdS ["_law_bag_here", "_law_things"] (spSome K))
    (GT : FnOk P w K mg base CX0 1 fT fdT ["_law_bag_here", "_law_upto"] spTake) (bT : L2.Binds K fdT ["_law_bag_here", "_law_upto"] []) : FnOk P w K mg base CX0 3 f fd ["_law_bag_here"] spNumbers := by
  refine F.ok scNumbers (fun vs H Q E h => ?_) (fun cdv A outer s H vs Q E hr h => ?_)
  · obtain ⟨b, c, rfl, _⟩ := h
    rfl
  · obtain ⟨b, c, rfl, B, k⟩ := h
    have nd := scNumbers.nd
    have hr1 := hr.mono (by decide : 1 ≤ 2)
    refine ⟨_, pss_cons (ps_set (i := 1) nd rfl (Or.inl rfl) (pe_call GS hr rfl T.gS T.kS T.bS .nil pass0 (pa_cons (pv 0) (pa_cons (pe_lst (pa_cons pe_int (pa_cons pe_int (pa_cons pe_int (pa_cons pe_int (pa_cons pe_int (pa_cons pe_int (pa_cons pe_int (pa_cons pe_int (pa_cons pe_int (pa_cons pe_int pa_nil))))))))))) pa_nil))))
      (pss_one (ps_ret (pe_tup (pa_cons (pe_op op_add pe_int (pe_call GS hr rfl T.gS T.kS T.bS .nil pass0 (pa_cons (pv 0) (pa_cons (pe_lst (pa_cons pe_int (pa_cons pe_int (pa_cons pe_int (pa_cons pe_int (pa_cons (pe_call GT hr1 rfl T.b.gT T.b.kT bT .nil pass0 (pa_cons (pv 0) (pa_cons pe_int pa_nil))) pa_nil)))))) pa_nil))))
        (pa_cons (pe_call GS hr rfl T.gS T.kS T.bS .nil pass0 (pa_cons (pv 0) (pa_cons (pe_lst (pa_cons pe_int (pa_cons pe_int (pa_cons pe_int (pa_cons pe_int (pa_cons pe_int (pa_cons pe_int pa_nil))))))) pa_nil))) (pa_cons (pv 1) pa_nil)))))), ?_⟩
    refine some_const (G := IntIn 0 9) (vs := ([9, 9, 9, 9, 1, 2, 3, 5, 8, 0] : List Int).map V.int) rfl B (fun Q' q => q) (by simp) (by simp) (ints_in (by decide)) fun v H1 hv e1 B1 => ?_
    obtain ⟨m, rfl, m0, m9⟩ := hv
    refine some_read (G := IntIn 0 8) (c := c) rfl (fun Q' q => ⟨_, rfl, b, c, _, rfl, by decide, by decide, B1, fun r H2 r0 r1 e2 B2 => q (([0, 0, 1, 2, r] : List Int).map V.int) H2 e2 B2 (by simp) (by simp) (ints_in fun n hn => ?_)⟩) fun v H2 hv e2 B2 => ?_
    · simp only [List.mem_cons, List.not_mem_nil, or_false] at hn
      rcases hn with h | h | h | h | h <;> omega
    obtain ⟨a, rfl, a0, a8⟩ := hv
    refine ⟨1, a, rfl, rfl, ?_⟩
    refine some_const (G := IntIn 0 4) (vs := ([0, 1, 1, 2, 3, 4] : List Int).map V.int) rfl B2 (fun Q' q => q) (by simp) (by simp) (ints_in (by decide)) fun v H3 hv e3 B3 => ?_
    obtain ⟨t, rfl, t0, t4⟩ := hv
    refine ⟨_, rfl, by show 3 ≤ sizeLine; decide, fun p np => ?_⟩
    have e13 := (e1.trans' e2).trans' e3
    have s : Same H3 (upd H3 p (.tup [.int (1 + a), .int t, .int m])) := same_new (Same.refl H3) np
    exact k p _ (1 + a) t m (e13.trans' (ext_same s)) (B3.same s) (e13.dom' B3 p np) upd_same (by omega) (by omega) t0 t4 m0 m9
end
end Gy

namespace Gy
open PySem L2 PySem.Spec PyProof.Rows
open PySem.W (AllAlike Sortable dataLe alike alikeAll)
abbrev sNeed : Stmt := top 32
/-- rows and names at hand: tuples of texts, not empty -/
structure Stock (H : Hp) (r n : Addr) (rows names : List Str) : Prop where
  hr : H r = some (.tup (rows.map V.str))
  hn : H n = some (.tup (names.map V.str))
  nr : rows ≠ []
  nn : names ≠ []
  lr : rows.length ≤ 1000
  ln : names.length ≤ 1000
theorem Stock.tups {H H' : Hp} {r n : Addr} {rows names : List Str} (s : Stock H r n rows names) (t : Tups H H') : Stock H' r n rows names := ⟨t _ _ s.hr, t _ _ s.hn, s.nr, s.nn, s.lr, s.ln⟩
def spNeed (K : PySem.W.Frag) : Sp := fun vs H Q _ => ∃ (b c r n : Addr) (rows names : List Str), vs = [.ref b, .ref r, .ref n] ∧ BagC c H b ∧ Stock H r n rows names ∧
  ∀ (p : Addr) (H' : Hp) (x : Nd), Ext b H H' → BagC c H' b → H p = none → Rp K H' (.ref p) x.d → x.ok rows names → Q (.ref p) H'
/-- some(bag, t), t a tuple of texts -/
theorem some_strs {K : PySem.W.Frag} {σ : L2.St} {i j : Nat} {b c r : Addr} {H : Hp} {Q : VK} {ss : List Str} (hb : σ[i]? = some (some (.ref b))) (hr : σ[j]? = some (some (.ref r))) (B : BagC c H b) (e : H r = some (.tup (ss.map V.str))) (ne : ss ≠ []) (len : ss.length ≤ 1000)
    (k : ∀ x H', x ∈ ss → Ext b H H' → BagC c H' b → Q (.str x) H') : tCall (spSome K) [] E0 (tCons (tVar i) (tCons (tVar j) tNil)) σ H Q := by
  obtain ⟨l, hl⟩ := B.lst
  refine ⟨_, hb, _, hr, b, c, r, ss.map V.str, rfl, (fun z => by rw [z, hl] at e; cases e), .inr e, by rw [List.length_map]; exact List.length_pos_iff.mpr ne, by rw [List.length_map]; omega, B, fun v H' hv e2 B2 => ?_⟩
  obtain ⟨x, hx, rfl⟩ := List.mem_map.mp hv
  exact k x H' hx e2 B2
section
variable {P : Program} {w : World} {K : PySem.W.Frag} {mg : Str → Option Value} {base : Heap}
structure TxtE (K : PySem.W.Frag) (mg : Str → Option Value) (fT fS fN : Addr) (fdT fdS fdN : FuncData) : Prop where
  g : TxtG K mg fT fS fdS
  bT : L2.Binds K fdT ["_law_bag_here", "_law_upto"] []
  gN : mg "_law_numbers" = some (.ref fN)
  bN : L2.Binds K fdN ["_law_bag_here"] []
  kN : PySem.W.keepIn K (.ref fN) = true
theorem scNeed : FnScope ["_law_bag_here", "_law_rows", "_law_names", "_law_after", "_law_tell", "_law_most"] ["_law_bag_here", "_law_rows", "_law_names"] (defScope sNeed) := ⟨rfl, rfl, rfl, by decide +kernel, rfl, by decide +kernel, by decide +kernel⟩
theorem ok_need {f fT fS fN : Addr} {fd fdT fdS fdN : FuncData} (F : Fun K "_law_need" "_law_need" sNeed f fd) (T : TxtE K mg fT fS fN fdT fdS fdN) (GS : FnOk P w K mg base CX0 2 fS fdS ["_law_bag_here", "_law_things"] (spSome K))
    (GT : FnOk P w K mg base CX0 1 fT fdT ["_law_bag_here", "_law_upto"] spTake) (GN : FnOk P w K mg base CX0 3 fN fdN ["_law_bag_here"] spNumbers) : FnOk P w K mg base CX0 4 f fd ["_law_bag_here", "_law_rows", "_law_names"] (spNeed K) := by
  refine F.ok scNeed (fun vs H Q E h => ?_) (fun cdv A outer s H vs Q E hr h => ?_)
  · obtain ⟨b, c, r, n, rows, names, rfl, _⟩ := h
    rfl
  · obtain ⟨b, c, r, n, rows, names, rfl, B, st, k⟩ := h
    have nd := scNeed.nd
    have hr1 := hr.mono (by decide : 1 ≤ 3)
    have hr2 := hr.mono (by decide : 2 ≤ 3)
    refine ⟨_, pss_cons (ps_asg (pe_call GN hr rfl T.gN T.kN T.bN .nil pass0 (pa_cons (pv 0) pa_nil)) (pg_tup rfl (pgs_cons (pg_name (i := 3) nd rfl (Or.inl rfl)) (pgs_cons (pg_name (i := 4) nd rfl (Or.inl rfl)) (pgs_cons (pg_name (i := 5) nd rfl (Or.inl rfl)) pgs_nil)))))
      (pss_cons (ps_if (pt_cmpR op_lt (pe_call GT hr1 rfl T.g.b.gT T.g.b.kT T.bT .nil pass0 (pa_cons (pv 0) (pa_cons pe_int pa_nil))) pe_int (nomark _))
        (pss_one (ps_ret (pe_tup (pa_cons pe_str (pa_cons (pe_call GS hr2 rfl T.g.gS T.g.kS T.g.bS .nil pass0 (pa_cons (pv 0) (pa_cons (pv 1) pa_nil))) (pa_cons (pv 4) (pa_cons (pv 5) pa_nil))))))) pss_nil)
      (pss_one (ps_ret (pe_tup (pa_cons pe_str (pa_cons (pe_call GS hr2 rfl T.g.gS T.g.kS T.g.bS .nil pass0 (pa_cons (pv 0) (pa_cons (pv 2) pa_nil))) (pa_cons (pv 3) (pa_cons (pv 4) (pa_cons (pv 5) pa_nil))))))))), ?_⟩
    refine ⟨_, rfl, b, c, rfl, B, fun p H1 a t m e1 B1 np hp a1 a9 t0 t4 m0 m9 => ?_⟩
    refine ⟨p, _, rfl, SqT.of hp, rfl, _, _, rfl, _, _, rfl, _, _, rfl, rfl, ?_⟩
    have st1 := st.tups (B.tups e1)
    refine ⟨_, rfl, b, c, 5, rfl, by decide, by decide, B1, fun z H2 z0 z5 e2 B2 => ?_⟩
    have st2 := st1.tups (B1.tups e2)
    refine ⟨z, 2, rfl, rfl, decide (z < 2), rfl, ?_⟩
    cases decide (z < 2) with
    | true =>
      refine iteT ?_
      refine some_strs rfl rfl B2 st2.hr st2.nr st2.lr fun x H3 hx e3 B3 => ?_
      refine ⟨_, rfl, _, rfl, by show 4 ≤ sizeLine; decide, fun q nq => ?_⟩
      have E3 := (e1.trans' e2).trans' e3
      have s : Same H3 (upd H3 q (.tup [.str "row", .str x, .int t, .int m])) := same_new (Same.refl H3) nq
      exact k q _ (.row x t m) (E3.trans' (ext_same s)) (B3.same s) (E3.dom' B3 q nq) (.tup upd_same (.cons (.str _) (.cons (.str _) (.cons (.int _) (.cons (.int _) .nil))))) ⟨hx, ⟨t0, t4⟩, m0, m9⟩
    | false =>
      refine iteF ?_
      refine some_strs (i := 0) (j := 2) rfl rfl B2 st2.hn st2.nn st2.ln fun x H3 hx e3 B3 => ?_
      refine ⟨_, rfl, _, rfl, _, rfl, by show 5 ≤ sizeLine; decide, fun q nq => ?_⟩
      have E3 := (e1.trans' e2).trans' e3
      have s : Same H3 (upd H3 q (.tup [.str "kind", .str x, .int a, .int t, .int m])) := same_new (Same.refl H3) nq
      exact k q _ (.knd x a t m) (E3.trans' (ext_same s)) (B3.same s) (E3.dom' B3 q nq) (.tup upd_same (.cons (.str _) (.cons (.str _) (.cons (.int _) (.cons (.int _) (.cons (.int _) .nil)))))) ⟨hx, ⟨a1, a9⟩, ⟨t0, t4⟩, m0, m9⟩
end
end Gy

namespace Gy
open PySem L2 PySem.Spec PyProof.Rows
open PySem.W (AllAlike Sortable dataLe alike alikeAll)
abbrev sGround : Stmt := top 33
def spGround (K : PySem.W.Frag) : Sp := fun vs H Q _ => ∃ (b c r n : Addr) (rows names : List Str), vs = [.ref b, .ref r, .ref n] ∧ BagC c H b ∧ Stock H r n rows names ∧
  ∀ (p : Addr) (H' : Hp) (g : List Nd), Ext b H H' → BagC c H' b → H p = none → Rp K H' (.ref p) (gd g) → GOk rows names 3 g → Q (.ref p) H'
theorem nds_flat : ∀ (g : List Nd), D.flatAll (g.map Nd.d) = true
  | [] => rfl
  | x :: g => by
    have q := (key_kb x.d x.key.1).2.1
    simp only [List.map_cons, D.flatAll, q, nds_flat g, Bool.and_self]
structure TxtO (mg : Str → Option Value) : Prop where
  tup : mg "tuple" = none
  srt : mg "sorted" = none
  set : mg "set" = none
  rng : mg "range" = none
section
variable {P : Program} {w : World} {K : PySem.W.Frag} {mg : Str → Option Value} {base : Heap}
theorem scGround : FnScope ["_law_bag_here", "_law_rows", "_law_names", "_law_some_here", "_law_k"] ["_law_bag_here", "_law_rows", "_law_names"] (defScope sGround) := ⟨rfl, rfl, rfl, by decide +kernel, rfl, by decide +kernel, by decide +kernel⟩
theorem ok_ground {f fT fS fD : Addr} {fd fdS fdD : FuncData} (F : Fun K "_law_ground" "_law_ground" sGround f fd) (T : TxtG K mg fT fS fdS) (O : TxtO mg) (GS : FnOk P w K mg base CX0 2 fS fdS ["_law_bag_here", "_law_things"] (spSome K))
    (gD : mg "_law_need" = some (.ref fD)) (bD : L2.Binds K fdD ["_law_bag_here", "_law_rows", "_law_names"] []) (kD : PySem.W.keepIn K (.ref fD) = true) (GD : FnOk P w K mg base CX0 4 fD fdD ["_law_bag_here", "_law_rows", "_law_names"] (spNeed K)) :
    FnOk P w K mg base CX0 5 f fd ["_law_bag_here", "_law_rows", "_law_names"] (spGround K) := by
  refine F.ok scGround (fun vs H Q E h => ?_) (fun cdv A outer s H vs Q E hr h => ?_)
  · obtain ⟨b, c, r, n, rows, names, rfl, _⟩ := h
    rfl
  · obtain ⟨b, c, r, n, rows, names, rfl, B, st, k⟩ := h
    have nd := scGround.nd
    have hr2 := hr.mono (by decide : 2 ≤ 4)
    have hu := hr.units
    refine ⟨_, pss_cons (ps_setLc (i := 3) (own := [("_law_k", 4)]) (g := gName 4) (tt := tYes) (te := tCall (spNeed K) [] E0 (tCons (tVar 0) (tCons (tVar 1) (tCons (tVar 2) tNil)))) rfl nd rfl rfl (sw_true rfl rfl rfl (by decide +kernel))
        (pi_range1 (by rfl) O.rng (pa_cons (pe_call GS hr2 rfl T.gS T.kS T.bS .nil pass0 (pa_cons (pv 0) (pa_cons (pe_lst (pa_cons pe_int (pa_cons pe_int (pa_cons pe_int (pa_cons pe_int (pa_cons pe_int (pa_cons pe_int pa_nil))))))) pa_nil))) pa_nil))
        (blkOk_by (own := [("_law_k", 4)]) (N := ["_law_bag_here", "_law_rows", "_law_names", "_law_some_here", "_law_k"]) (sc := defScope sGround) (by decide +kernel))
        (fun _ _ _ _ _ => pg_name (i := 4) nd rfl (Or.inl rfl)) (fun _ _ _ _ _ => pts_nil) (fun _ _ _ _ _ => pe_call GD hr rfl gD kD bD .nil pass0 (pa_cons (pv 0) (pa_cons (pv 1) (pa_cons (pv 2) pa_nil)))))
      (pss_one (ps_ret (pe_tupleOf (by rfl) O.tup (pe_callB (Ns.cr_sortedN rfl hu) (by rfl) O.srt (by decide +kernel) (pa_cons (pe_callTy (Ns.cr_setN rfl hu) (by rfl) O.set (by decide +kernel) (pa_cons (pv 3) pa_nil)) pa_nil))))), ?_⟩
    refine some_const (G := IntIn 1 3) (vs := ([1, 1, 1, 2, 2, 3] : List Int).map V.int) rfl B (fun Q' q => q) (by simp) (by simp) (ints_in (by decide)) fun v H1 hv e1 B1 => ?_
    obtain ⟨j, rfl, j1, j3⟩ := hv
    have st1 := st.tups (B.tups e1)
    refine ⟨j, rfl, by omega, by omega, fun D nD => ?_⟩
    have nDb : D ≠ b := ne_at nD B1.hbs
    have nDc : D ≠ c := ne_at nD B1.hcs
    have main : ∀ (Qd : Hp → Prop), (∀ (H' : Hp) (vs : List V) (g : List Nd), Ext b H1 H' → BagC c H' b → H' D = some (.lst vs) → RpAll K H' vs (g.map Nd.d) → g.length = j.toNat → (∀ x ∈ g, x.ok rows names) → Qd H') →
        ∃ W : Nat → Nat → Hp → Prop, (∃ m, W 0 m (upd H1 D (.lst []))) ∧ ∀ i m H, W i m H →
          ((Itr 0 j.toNat).stop i H ∧ Qd H) ∨ ((Itr 0 j.toNat).go i H ∧ ∃ Nx : Hp → Prop, (∀ H', Nx H' → ∃ m', m' < m ∧ W (i + 1) m' H') ∧ ∀ x H', (Itr 0 j.toNat).yld i H x H' → (gName 4) x (wipe [some (.ref b), some (.ref r), some (.ref n), none, none] [4]) H' fun σ2 H2 =>
            wipe σ2 [4] = wipe [some (.ref b), some (.ref r), some (.ref n), none, none] [4] ∧ tYes σ2 H2 fun bb H3 => if bb = true then tCall (spNeed K) [] E0 (tCons (tVar 0) (tCons (tVar 1) (tCons (tVar 2) tNil))) σ2 H3 fun y H4 => ∃ acc, H4 D = some (.lst acc) ∧ acc.length < sizeLine ∧ Nx (upd H4 D (.lst (acc ++ [y]))) else Nx H3) := by
      intro Qd fin
      refine lc_range (n := j.toNat) (fun i H' => Ext b H1 H' ∧ BagC c H' b ∧ ∃ (vs : List V) (g : List Nd), H' D = some (.lst vs) ∧ RpAll K H' vs (g.map Nd.d) ∧ g.length = i ∧ ∀ x ∈ g, x.ok rows names) ⟨ext_put (Ext.refl' b H1) nD, B1.put nDb nDc, [], [], upd_same, .nil, rfl, fun x m => absurd m List.not_mem_nil⟩ ?_ ?_
      · rintro i H' hi ⟨e, B', vs, g, hD, rp, lg, ok⟩
        have st' := st1.tups (B1.tups e)
        refine ⟨rfl, tyes_go ⟨_, rfl, _, rfl, _, rfl, b, c, r, n, rows, names, rfl, B', st', fun p H2 x e2 B2 np rx okx => ?_⟩⟩
        have hD2 := e2 D _ nDb hD
        have T2 := B'.tups e2
        have T3 : Tups H2 (upd H2 D (.lst (vs ++ [.ref p]))) := Tups.put hD2
        have lv : vs.length = i := by rw [rp.len, List.length_map, lg]
        refine ⟨vs, hD2, by rw [lv, sizeLine_eq]; omega, ext_put (e.trans' e2) nD, B2.put nDb nDc, vs ++ [.ref p], g ++ [x], upd_same, ?_, by rw [List.length_append, lg]; rfl, fun y hy => ?_⟩
        · rw [List.map_append]
          exact ((rp.tups (T2.trans T3) (nds_flat g)).append (.cons (Rp.tups T3 rx (key_kb x.d x.key.1).2.1) .nil))
        · rcases List.mem_append.mp hy with z | z
          · exact ok y z
          · rw [List.mem_singleton.mp z]
            exact okx
      · rintro H' ⟨e, B', vs, g, hD, rp, lg, ok⟩
        exact fin H' vs g e B' hD rp lg ok
    refine main _ fun H2 vs g e2 B2 hD rp lg ok => ?_
    have lt : g.length < 64 := by omega
    have ne : g ≠ [] := fun z => by rw [z] at lg; simp at lg; omega
    refine ⟨_, rfl, once_go (.inl hD) rp (fit_nds lt) fun p H3 vs' es s3 np hp rp' on => ?_⟩
    obtain ⟨g', rfl, gok⟩ := once_gok (n := 3) (by omega) ne ok on
    have E2 := e1.trans' e2
    exact k p H3 g' (E2.trans' (ext_same s3)) (B2.same s3) (E2.dom' B2 p np) (.tup hp rp') gok
end
end Gy

namespace Gy
open PySem L2 PySem.Spec PyProof.Rows
open PySem.W (AllAlike Sortable dataLe alike alikeAll)
/-! ### kinds, rulebooks -/
structure Kd where
  name : Str
  keep : Int
  bar : Int
  gs : List (List Nd)
def Kd.d (k : Kd) : D := .tup [.str k.name, .int k.keep, .int k.bar, .tup (k.gs.map gd)]
structure Bk where
  rows : List Str
  kinds : List Kd
def Bk.d (b : Bk) : D := .tup [.tup (b.rows.map .str), .tup (b.kinds.map Kd.d)]
def Bk.names (b : Bk) : List Str := b.kinds.map Kd.name
structure KOk (rows names : List Str) (k : Kd) : Prop where
  keep : 1 ≤ k.keep ∧ k.keep ≤ 8
  bar : 0 ≤ k.bar ∧ k.bar ≤ 12
  gs : ∀ g ∈ k.gs, GOk rows names 3 g
  len : k.gs.length ≤ 4
  nd : k.gs.Nodup
  asc : (k.gs.map gd).Pairwise fun x y => leD x y = true
structure NamesOk (ns : List Str) : Prop where
  ne : ns ≠ []
  len : ns.length ≤ 15
  nd : ns.Nodup
  asc : sortedS ns = true
  mem : ∀ x ∈ ns, x ∈ menu
structure BOk (b : Bk) : Prop where
  rows : NamesOk b.rows
  names : NamesOk b.names
  kinds : ∀ k ∈ b.kinds, KOk b.rows b.names k
theorem Names.ok {ns : List Str} {m : Nat} (h : Names ns m) (hm : 0 < m) : NamesOk ns := ⟨fun z => by
  have := h.len
  rw [z] at this
  simp only [List.length_nil] at this
  omega, by rw [h.len]; omega, h.nd, h.asc, h.mem⟩
theorem map_inj {α β : Type} {f : α → β} (hf : ∀ {x y}, f x = f y → x = y) : ∀ {l m : List α}, l.map f = m.map f → l = m
  | [], [], _ => rfl
  | x :: l, y :: m, h => by
    simp only [List.map_cons, List.cons.injEq] at h
    rw [hf h.1, map_inj hf h.2]
  | [], _ :: _, h => by cases h
  | _ :: _, [], h => by cases h
theorem gd_inj {g h : List Nd} (e : gd g = gd h) : g = h := by
  unfold gd at e
  injection e with e
  exact map_inj Nd.d_inj e
theorem nds_key : ∀ (g : List Nd), D.keyAll (g.map Nd.d) = true ∧ D.depthAll (g.map Nd.d) ≤ 1
  | [] => ⟨rfl, Nat.zero_le _⟩
  | x :: g => by
    obtain ⟨h1, h2⟩ := nds_key g
    have q := x.key.1
    have e : x.d.depth ≤ 1 := by cases x <;> exact Nat.le_refl _
    simp only [List.map_cons, D.keyAll, D.depthAll, q, h1, Bool.and_self]
    exact ⟨trivial, by omega⟩
theorem nds_al : ∀ (g h : List Nd), alikeAll (D.pyAll (g.map Nd.d)) (D.pyAll (h.map Nd.d)) = true
  | [], _ => by simp [D.pyAll, alikeAll]
  | _ :: _, [] => by simp [D.pyAll, alikeAll]
  | x :: g, y :: h => by simp only [List.map_cons, D.pyAll, alikeAll, x.al y, nds_al g h, Bool.and_self]
theorem gd_key (g : List Nd) : (gd g).key = true ∧ (gd g).depth ≤ 8 := by
  obtain ⟨h1, h2⟩ := nds_key g
  exact ⟨by simp only [gd, D.key, h1], by simp only [gd, D.depth]; omega⟩
theorem fit_gds {gs : List (List Nd)} (ne : ∀ g ∈ gs, g ≠ []) (h : gs.length < 64) : Fit (gs.map gd) := {
  key := fun d hd => by
    obtain ⟨x, _, rfl⟩ := List.mem_map.mp hd
    exact (gd_key x).1
  dep := fun d hd => by
    obtain ⟨x, _, rfl⟩ := List.mem_map.mp hd
    exact (gd_key x).2
  tup := fun d hd => by
    obtain ⟨x, hx, rfl⟩ := List.mem_map.mp hd
    obtain ⟨y, l, rfl⟩ := List.exists_cons_of_ne_nil (ne x hx)
    exact ⟨y.d, l.map Nd.d, rfl⟩
  al := fun d hd e he => by
    obtain ⟨x, _, rfl⟩ := List.mem_map.mp hd
    obtain ⟨y, _, rfl⟩ := List.mem_map.mp he
    exact nds_al x y
  len := by rw [List.length_map]; exact h }
theorem gds_flat : ∀ (gs : List (List Nd)), D.flatAll (gs.map gd) = true
  | [] => rfl
  | x :: g => by
    have q := (key_kb _ (gd_key x).1).2.1
    simp only [List.map_cons, D.flatAll, q, gds_flat g, Bool.and_self]
/-- grounds, alike ones once -/
theorem once_gs {rows names : List Str} {gs : List (List Nd)} {es : List D} {n : Nat} (hn : gs.length ≤ n) (ok : ∀ g ∈ gs, GOk rows names 3 g) (o : Once (gs.map gd) es) :
    ∃ gs' : List (List Nd), es = gs'.map gd ∧ (∀ g ∈ gs', GOk rows names 3 g) ∧ gs'.length ≤ n ∧ gs'.Nodup ∧ (gs'.map gd).Pairwise fun x y => leD x y = true := by
  obtain ⟨gs', ig, rfl⟩ := back_map gd o.sub
  have nd : gs'.Nodup := List.Pairwise.of_map gd (fun _ _ hne z => hne (congrArg gd z)) o.nd
  exact ⟨gs', rfl, fun x hx => ok x (ig x hx), Nat.le_trans (nodup_sub nd ig) hn, nd, o.asc⟩
theorem kd_flat (k : Kd) : k.d.flat = true := by simp only [Kd.d, D.flat, D.flatAll, gds_flat, Bool.and_self]
theorem kds_flat : ∀ (ks : List Kd), D.flatAll (ks.map Kd.d) = true
  | [] => rfl
  | x :: g => by simp only [List.map_cons, D.flatAll, kd_flat x, kds_flat g, Bool.and_self]
theorem strs_flat : ∀ (ss : List Str), D.flatAll (ss.map D.str) = true
  | [] => rfl
  | x :: g => by simp only [List.map_cons, D.flatAll, D.flat, strs_flat g, Bool.and_self]
theorem bk_flat (b : Bk) : b.d.flat = true := by simp only [Bk.d, D.flat, D.flatAll, kds_flat, strs_flat, Bool.and_self]
theorem rp_of_strs {K : PySem.W.Frag} {H : Hp} : ∀ (ss : List Str), RpAll K H (ss.map V.str) (ss.map D.str)
  | [] => .nil
  | x :: ss => .cons (.str x) (rp_of_strs ss)
theorem flatAll_map {X : Type} (dat : X → D) (hf : ∀ x, (dat x).flat = true) : ∀ xs : List X, D.flatAll (xs.map dat) = true
  | [] => rfl
  | x :: xs => by simp only [List.map_cons, D.flatAll, hf x, flatAll_map dat hf xs, Bool.and_self]
/-- [draw(..) for k in range(n)] -/
theorem lc_draw {K : PySem.W.Frag} {σ : L2.St} {j n : Nat} {te : TE} {X : Type} {b c D : Addr} {H1 : Hp} {Qd : Hp → Prop} (dat : X → Gy.D) (hf : ∀ x, (dat x).flat = true) (ok : X → Prop) (nD : H1 D = none) (B1 : BagC c H1 b) (hn : n ≤ 1000)
    (turn : ∀ (i : Nat) (H' : Hp) (Q : VK), Ext b H1 H' → BagC c H' b → (∀ p H2 x, Ext b H' H2 → BagC c H2 b → Rp K H2 (.ref p) (dat x) → ok x → Q (.ref p) H2) → te ((wipe σ [j]).set j (some (.int (0 + (i : Int))))) H' Q)
    (fin : ∀ (H' : Hp) (vs : List V) (xs : List X), Ext b H1 H' → BagC c H' b → H' D = some (.lst vs) → RpAll K H' vs (xs.map dat) → xs.length = n → (∀ x ∈ xs, ok x) → Qd H') :
    ∃ W : Nat → Nat → Hp → Prop, (∃ m, W 0 m (upd H1 D (.lst []))) ∧ ∀ i m H, W i m H →
      ((Itr 0 n).stop i H ∧ Qd H) ∨ ((Itr 0 n).go i H ∧ ∃ Nx : Hp → Prop, (∀ H', Nx H' → ∃ m', m' < m ∧ W (i + 1) m' H') ∧ ∀ x H', (Itr 0 n).yld i H x H' → (gName j) x (wipe σ [j]) H' fun σ2 H2 =>
        wipe σ2 [j] = wipe σ [j] ∧ tYes σ2 H2 fun bb H3 => if bb = true then te σ2 H3 fun y H4 => ∃ acc, H4 D = some (.lst acc) ∧ acc.length < sizeLine ∧ Nx (upd H4 D (.lst (acc ++ [y]))) else Nx H3) := by
  have nDb : D ≠ b := ne_at nD B1.hbs
  have nDc : D ≠ c := ne_at nD B1.hcs
  refine lc_range (n := n) (fun i H' => Ext b H1 H' ∧ BagC c H' b ∧ ∃ (vs : List V) (xs : List X), H' D = some (.lst vs) ∧ RpAll K H' vs (xs.map dat) ∧ xs.length = i ∧ ∀ x ∈ xs, ok x) ⟨ext_put (Ext.refl' b H1) nD, B1.put nDb nDc, [], [], upd_same, .nil, rfl, fun x m => absurd m List.not_mem_nil⟩ ?_ ?_
  · rintro i H' hi ⟨e, B', vs, xs, hD, rp, lg, hok⟩
    refine ⟨by simp [wipe], tyes_go (turn i H' _ e B' fun p H2 x e2 B2 rx okx => ?_)⟩
    have hD2 := e2 D _ nDb hD
    have T2 := B'.tups e2
    have T3 : Tups H2 (upd H2 D (.lst (vs ++ [.ref p]))) := Tups.put hD2
    have lv : vs.length = i := by rw [rp.len, List.length_map, lg]
    refine ⟨vs, hD2, by rw [lv, sizeLine_eq]; omega, ext_put (e.trans' e2) nD, B2.put nDb nDc, vs ++ [.ref p], xs ++ [x], upd_same, ?_, by rw [List.length_append, lg]; rfl, fun y hy => ?_⟩
    · rw [List.map_append]
      exact (rp.tups (T2.trans T3) (flatAll_map dat hf xs)).append (.cons (Rp.tups T3 rx (hf x)) .nil)
    · rcases List.mem_append.mp hy with z | z
      · exact hok y z
      · rw [List.mem_singleton.mp z]
        exact okx
  · rintro H' ⟨e, B', vs, xs, hD, rp, lg, hok⟩
    exact fin H' vs xs e B' hD rp lg hok
theorem RpAll.take {K : PySem.W.Frag} {H : Hp} : ∀ (n : Nat) {vs : List V} {ds : List D}, RpAll K H vs ds → RpAll K H (vs.take n) (ds.take n)
  | 0, _, _, _ => .nil
  | n + 1, _, _, .nil => .nil
  | n + 1, _, _, .cons r rs => .cons r (RpAll.take n rs)
abbrev sAny : Stmt := top 34
/-- a rulebook's size -/
def BSm (B : Bk) (n m : Nat) : Prop := B.kinds.length ≤ n ∧ B.rows.length ≤ m
def spAny (K : PySem.W.Frag) : Sp := fun vs H Q _ => ∃ (b c : Addr) (n m : Int), vs = [.ref b, .int n, .int m] ∧ 1 ≤ n ∧ n ≤ 15 ∧ 1 ≤ m ∧ m ≤ 15 ∧ BagC c H b ∧
  ∀ (p : Addr) (H' : Hp) (B : Bk), Ext b H H' → BagC c H' b → H p = none → Rp K H' (.ref p) B.d → BOk B → BSm B n.toNat m.toNat → Q (.ref p) H'
section
variable {P : Program} {w : World} {K : PySem.W.Frag} {mg : Str → Option Value} {base : Heap}
theorem scAny : FnScope ["_law_bag_here", "_law_kinds", "_law_rows", "_law_names", "_law_found", "_law_name", "_law_grounds", "_law_k"] ["_law_bag_here", "_law_kinds", "_law_rows"] (defScope sAny) := ⟨rfl, rfl, rfl, by decide +kernel, rfl, by decide +kernel, by decide +kernel⟩
theorem ok_any {f fT fS fN fG : Addr} {fd fdT fdS fdN fdG : FuncData} (F : Fun K "_law_any_rulebook" "_law_any_rulebook" sAny f fd) (T : TxtG K mg fT fS fdS) (O : TxtO mg) (GS : FnOk P w K mg base CX0 2 fS fdS ["_law_bag_here", "_law_things"] (spSome K))
    (GT : FnOk P w K mg base CX0 1 fT fdT ["_law_bag_here", "_law_upto"] spTake) (bT : L2.Binds K fdT ["_law_bag_here", "_law_upto"] [])
    (gN : mg "_law_named" = some (.ref fN)) (bN : L2.Binds K fdN ["_law_bag_here", "_law_many"] []) (kN : PySem.W.keepIn K (.ref fN) = true) (GN : FnOk P w K mg base CX0 3 fN fdN ["_law_bag_here", "_law_many"] spNamed)
    (gG : mg "_law_ground" = some (.ref fG)) (bG : L2.Binds K fdG ["_law_bag_here", "_law_rows", "_law_names"] []) (kG : PySem.W.keepIn K (.ref fG) = true) (GG : FnOk P w K mg base CX0 5 fG fdG ["_law_bag_here", "_law_rows", "_law_names"] (spGround K)) :
    FnOk P w K mg base CX0 6 f fd ["_law_bag_here", "_law_kinds", "_law_rows"] (spAny K) := by
  refine F.ok scAny (fun vs H Q E h => ?_) (fun cdv A outer s H vs Q E hr h => ?_)
  · obtain ⟨b, c, n, m, rfl, _⟩ := h
    rfl
  · obtain ⟨b, c, n, m, rfl, n1, n15, m1, m15, B, k⟩ := h
    have nd := scAny.nd
    have hr1 := hr.mono (by decide : 1 ≤ 5)
    have hr2 := hr.mono (by decide : 2 ≤ 5)
    have hr3 := hr.mono (by decide : 3 ≤ 5)
    have hu := hr.units
    refine ⟨_, pss_cons (ps_asg (pe_tup (pa_cons (pe_call GN hr3 rfl gN kN bN .nil pass0 (pa_cons (pv 0) (pa_cons (pe_op op_add pe_int (pe_call GT hr1 rfl T.b.gT T.b.kT bT .nil pass0 (pa_cons (pv 0) (pa_cons (pv 1) pa_nil)))) pa_nil))) (pa_cons (pe_call GN hr3 rfl gN kN bN .nil pass0 (pa_cons (pv 0) (pa_cons (pe_op op_add pe_int (pe_call GT hr1 rfl T.b.gT T.b.kT bT .nil pass0 (pa_cons (pv 0) (pa_cons (pv 2) pa_nil)))) pa_nil))) pa_nil)))
        (pg_tup rfl (pgs_cons (pg_name (i := 3) nd rfl (Or.inr rfl)) (pgs_cons (pg_name (i := 2) nd rfl (Or.inr rfl)) pgs_nil))))
      (pss_cons (ps_set (i := 4) nd rfl (Or.inl rfl) (pe_lst pa_nil))
      (pss_cons (ps_for PassesOwn.never rfl (pi_tup (pv 3)) (pg_name (i := 5) nd rfl (Or.inl rfl))
        (pss_cons (ps_setLc (i := 6) (own := [("_law_k", 7)]) (g := gName 7) (tt := tYes) (te := tCall (spGround K) [] E0 (tCons (tVar 0) (tCons (tVar 2) (tCons (tVar 3) tNil)))) rfl nd rfl rfl (sw_true rfl rfl rfl (by decide +kernel))
          (pi_range1 (by rfl) O.rng (pa_cons (pe_call GS hr2 rfl T.gS T.kS T.bS .nil pass0 (pa_cons (pv 0) (pa_cons (pe_lst (pa_cons pe_int (pa_cons pe_int (pa_cons pe_int (pa_cons pe_int (pa_cons pe_int (pa_cons pe_int pa_nil))))))) pa_nil))) pa_nil))
          (blkOk_by (own := [("_law_k", 7)]) (N := ["_law_bag_here", "_law_kinds", "_law_rows", "_law_names", "_law_found", "_law_name", "_law_grounds", "_law_k"]) (sc := defScope sAny) (by decide +kernel))
          (fun _ _ _ _ _ => pg_name (i := 7) nd rfl (Or.inl rfl)) (fun _ _ _ _ _ => pts_nil) (fun _ _ _ _ _ => pe_call GG hr rfl gG kG bG .nil pass0 (pa_cons (pv 0) (pa_cons (pv 2) (pa_cons (pv 3) pa_nil)))))
        (C8.pss_cut (ps_if (pt_cmpR op_eq (pe_call GT hr1 rfl T.b.gT T.b.kT bT .nil pass0 (pa_cons (pv 0) (pa_cons pe_int pa_nil))) pe_int (nomark _))
          (pss_one (ps_set (i := 6) nd rfl (Or.inl rfl) (pe_op op_cat (pe_slice sl_list (pv 6) po_none (po_some pe_int)) (pe_lst (pa_cons (pe_tup (pa_cons (pe_tup (pa_cons pe_str (pa_cons (pe_call GS hr2 rfl T.gS T.kS T.bS .nil pass0 (pa_cons (pv 0) (pa_cons (pv 2) pa_nil))) (pa_cons (pe_call GT hr1 rfl T.b.gT T.b.kT bT .nil pass0 (pa_cons (pv 0) (pa_cons pe_int pa_nil))) (pa_cons pe_int pa_nil))))) pa_nil)) pa_nil))))) pss_nil)
        (pss_one (ps_expr (by exact (pe_bm PySem.F.plainAttrs_list PySem.F.slot_list_append PySem.F.type_list_append mt_append (pv 4) (pa_cons (pe_tup (pa_cons (pv 5) (pa_cons (pe_op op_add pe_int (pe_call GT hr1 rfl T.b.gT T.b.kT bT .nil pass0 (pa_cons (pv 0) (pa_cons pe_int pa_nil))))
          (pa_cons (pe_call GS hr2 rfl T.gS T.kS T.bS .nil pass0 (pa_cons (pv 0) (pa_cons (pe_lst (pa_cons pe_int (pa_cons pe_int (pa_cons pe_int (pa_cons pe_int (pa_cons pe_int (pa_cons pe_int pa_nil))))))) pa_nil)))
          (pa_cons (pe_tupleOf (by rfl) O.tup (pe_callB (Ns.cr_sortedN rfl hu) (by rfl) O.srt (by decide +kernel) (pa_cons (pe_callTy (Ns.cr_setN rfl hu) (by rfl) O.set (by decide +kernel) (pa_cons (pv 6) pa_nil)) pa_nil))) pa_nil))))) pa_nil))))))))
      (pss_one (ps_ret (pe_tup (pa_cons (pv 2) (pa_cons (pe_tupleOf (by rfl) O.tup (pv 4)) pa_nil))))))), ?_⟩
    refine ⟨_, rfl, _, rfl, _, rfl, b, c, n, rfl, by omega, by omega, B, fun r1 H1 r10 r11 e1 B1 => ⟨1, r1, rfl, rfl, b, c, (1 + r1).toNat, (by rw [Int.toNat_of_nonneg (by omega : 0 ≤ 1 + r1)]; rfl), B1, fun p1 H2 ns e2 B2 np1 hp1 N1 => ?_⟩⟩
    refine ⟨_, rfl, _, rfl, _, rfl, b, c, m, rfl, by omega, by omega, B2, fun r2 H3 r20 r21 e3 B3 => ⟨1, r2, rfl, rfl, b, c, (1 + r2).toNat, (by rw [Int.toNat_of_nonneg (by omega : 0 ≤ 1 + r2)]; rfl), B3, fun p2 H4 rs e4 B4 np2 hp2 N2 => ?_⟩⟩
    refine ⟨by show 2 ≤ sizeLine; decide, fun q nq => ?_⟩
    have s5 : Same H4 (upd H4 q (.tup [.ref p1, .ref p2])) := same_new (Same.refl H4) nq
    have h5 : upd H4 q (.tup [.ref p1, .ref p2]) q = some (.tup [.ref p1, .ref p2]) := upd_same
    generalize upd H4 q (.tup [.ref p1, .ref p2]) = H5 at s5 h5
    refine ⟨q, _, rfl, SqT.of h5, rfl, _, _, rfl, _, _, rfl, rfl, ?_⟩
    have E5 : Ext b H H5 := (((e1.trans' e2).trans' e3).trans' e4).trans' (ext_same s5)
    have B5 := B4.same s5
    have hn5 : H5 p1 = some (.tup (ns.map V.str)) := (((B2.tups e3).trans (B3.tups e4)).trans (.same s5)) _ _ hp1
    have hr5 : H5 p2 = some (.tup (rs.map V.str)) := s5 _ _ hp2
    have okN := N1.ok (by omega)
    have okR := N2.ok (by omega)
    have st5 : Stock H5 p2 p1 rs ns := ⟨hr5, hn5, okR.ne, okN.ne, by have := okR.len; omega, by have := okN.len; omega⟩
    refine ⟨Nat.zero_le _, fun L nL => ?_⟩
    have nLb : L ≠ b := ne_at nL B5.hbs
    have nLc : L ≠ c := ne_at nL B5.hcs
    have nL0 : H L = none := E5.dom' B5 L nL
    have T6 : Tups H5 (upd H5 L (.lst [])) := fun a xs h => by rw [upd_ne (ne_of_none h nL)]; exact h
    try dsimp only
    show tSeq _ _ _ [some (.ref b), some (.int n), some (.ref p2), some (.ref p1), some (.ref L), none, none, none] (upd H5 L (.lst []))
    refine ⟨_, rfl, p1, rfl, ⟨_, SqT.of (T6 _ _ hn5)⟩, for_tup (xs := ns.map V.str) (fun i σ' H' => (∃ x5 x6 x7, σ' = [some (.ref b), some (.int n), some (.ref p2), some (.ref p1), some (.ref L), x5, x6, x7]) ∧ Ext b H H' ∧ BagC c H' b ∧ Tups H5 H' ∧
        ∃ (vs : List V) (ks : List Kd), H' L = some (.lst vs) ∧ RpAll K H' vs (ks.map Kd.d) ∧ ks.map Kd.name = ns.take i ∧ ∀ k ∈ ks, KOk rs ns k)
      ⟨⟨_, _, _, rfl⟩, ext_put E5 nL0, B5.put nLb nLc, T6, [], [], upd_same, .nil, rfl, fun x m => absurd m List.not_mem_nil⟩ (fun i σ' H' _ z => SqT.of (z.2.2.2.1 _ _ hn5)) ?_ ?_⟩
    · rintro i x σ' H6 hi ⟨⟨x5, x6, x7, rfl⟩, E6, B6, T6', vs, ks, hL, rp, nm, oks⟩
      obtain ⟨y, hy, rfl⟩ : ∃ y, ns[i]? = some y ∧ x = .str y := by
        rw [List.getElem?_map] at hi
        cases z : ns[i]? with
        | none => rw [z] at hi; cases hi
        | some y =>
          rw [z] at hi
          exact ⟨y, rfl, (Option.some.inj hi).symm⟩
      try dsimp only
      show tSeq _ _ _ [some (.ref b), some (.int n), some (.ref p2), some (.ref p1), some (.ref L), some (.str y), x6, x7] H6
      refine some_const (G := IntIn 0 4) (vs := ([1, 2, 2, 3, 4, 0] : List Int).map V.int) rfl B6 (fun Q' q => q) (by simp) (by simp) (ints_in (by decide)) fun v H7 hv e7 B7 => ?_
      obtain ⟨j, rfl, j0, j4⟩ := hv
      refine ⟨j, rfl, by omega, by omega, fun G nG => ?_⟩
      have T7 := T6'.trans (B6.tups e7)
      refine lc_draw (n := j.toNat) gd (fun g => (key_kb _ (gd_key g).1).2.1) (GOk rs ns 3) nG B7 (by omega) (fun i H' Q' e' B' k' => ⟨_, rfl, _, rfl, _, rfl, b, c, p2, p1, rs, ns, rfl, B', st5.tups (T7.trans (B7.tups e')), fun p H2 g e2 B2 _ rp ok => k' p H2 g e2 B2 rp ok⟩) fun H8 gvs gs e8 B8 hG rg lg okg => ?_
      have e68 := e7.trans' e8
      have hL8 : H8 L = some (.lst vs) := e68 L _ nLb hL
      have rp8 : RpAll K H8 vs (ks.map Kd.d) := rp.tups (B6.tups e68) (kds_flat ks)
      have T8 := T6'.trans (B6.tups e68)
      try dsimp only
      show C8.tCut _ _ _ [some (.ref b), some (.int n), some (.ref p2), some (.ref p1), some (.ref L), some (.str y), some (.ref G), x7] H8
      refine ⟨fun σ' H' => ∃ (G' : Addr) (gvs' : List V) (gs' : List (List Nd)), σ' = [some (.ref b), some (.int n), some (.ref p2), some (.ref p1), some (.ref L), some (.str y), some (.ref G'), x7] ∧ Ext b H8 H' ∧ BagC c H' b ∧ H' G' = some (.lst gvs') ∧ RpAll K H' gvs' (gs'.map gd) ∧ gs'.length ≤ 4 ∧ ∀ g ∈ gs', GOk rs ns 3 g, ?_, ?_⟩
      · refine ⟨_, rfl, b, c, 3, rfl, by decide, by decide, B8, fun z H9 z0 z3 e9 B9 => ⟨rfl, _, rfl, ite2 (fun _ => ?_) fun _ => ?_⟩⟩
        · have T9 := T8.trans (B8.tups e9)
          have hG9 := e9 G _ (ne_at nG B7.hbs) hG
          refine ⟨_, rfl, _, rfl, G, gvs, rfl, SqL.of hG9, fun p np => ?_⟩
          have sA : Same H9 (upd H9 p (.lst (cutV gvs none (some 3)))) := same_new (Same.refl H9) np
          have hA : upd H9 p (.lst (cutV gvs none (some 3))) p = some (.lst (gvs.take 3)) := by rw [upd_same]; exact congrArg (fun l => some (HO.lst l)) (cut_take gvs 3)
          generalize upd H9 p (.lst (cutV gvs none (some 3))) = HA at sA hA
          have BA := B9.same sA
          have TA := T9.trans (.same sA)
          have npb : p ≠ b := ne_at np B9.hbs
          refine some_strs (i := 0) (j := 2) rfl rfl BA (TA _ _ hr5) okR.ne (by have := okR.len; omega) fun x HB hx eB BB => ?_
          refine ⟨_, rfl, b, c, 5, rfl, by decide, by decide, BB, fun t HC t0 t5 eC BC => ⟨by show 4 ≤ sizeLine; decide, fun q1 nq1 => ?_⟩⟩
          have s1 : Same HC (upd HC q1 (.tup [.str "row", .str x, .int t, .int 9])) := same_new (Same.refl HC) nq1
          have g1 : upd HC q1 (.tup [.str "row", .str x, .int t, .int 9]) q1 = some (.tup [.str "row", .str x, .int t, .int 9]) := upd_same
          generalize upd HC q1 (.tup [.str "row", .str x, .int t, .int 9]) = HD at s1 g1
          refine ⟨by show 1 ≤ sizeLine; decide, fun q2 nq2 => ?_⟩
          have s2 : Same HD (upd HD q2 (.tup [.ref q1])) := same_new (Same.refl HD) nq2
          have g2 : upd HD q2 (.tup [.ref q1]) q2 = some (.tup [.ref q1]) := upd_same
          generalize upd HD q2 (.tup [.ref q1]) = HE at s2 g2
          refine ⟨by show 1 ≤ sizeLine; decide, fun q3 nq3 => ?_⟩
          have s3 : Same HE (upd HE q3 (.lst [.ref q2])) := same_new (Same.refl HE) nq3
          have g3 : upd HE q3 (.lst [.ref q2]) q3 = some (.lst [.ref q2]) := upd_same
          generalize upd HE q3 (.lst [.ref q2]) = HF at s3 g3
          have eAF : Ext b HA HF := (eB.trans' eC).trans' (ext_same ((s1.trans s2).trans s3))
          have BF := BC.same ((s1.trans s2).trans s3)
          refine ⟨p, q3, gvs.take 3, [.ref q2], rfl, rfl, eAF p _ npb hA, g3, by rw [List.length_take, sizeLine_eq]; simp only [List.length_cons, List.length_nil]; omega, fun p4 np4 => ?_⟩
          have s4 : Same HF (upd HF p4 (.lst (gvs.take 3 ++ [.ref q2]))) := same_new (Same.refl HF) np4
          have eall : Ext b H8 (upd HF p4 (.lst (gvs.take 3 ++ [.ref q2]))) := ((e9.trans' (ext_same sA)).trans' eAF).trans' (ext_same s4)
          refine ⟨p4, gvs.take 3 ++ [.ref q2], gs.take 3 ++ [[.row x t 9]], rfl, eall, BF.same s4, upd_same, ?_, by rw [List.length_append, List.length_take]; simp only [List.length_cons, List.length_nil]; omega, fun g hg => ?_⟩
          · rw [List.map_append, List.map_take]
            refine (RpAll.take 3 (rg.tups (B8.tups eall) (gds_flat gs))).append (.cons (.tup (s4 _ _ (s3 _ _ g2)) (.cons (.tup (s4 _ _ (s3 _ _ (s2 _ _ g1))) (.cons (.str _) (.cons (.str _) (.cons (.int _) (.cons (.int _) .nil))))) .nil)) .nil)
          · rcases List.mem_append.mp hg with z | z
            · exact okg g (List.mem_of_mem_take z)
            · rw [List.mem_singleton.mp z]
              exact ⟨by simp, by show 1 ≤ 3; decide, fun u hu => by rw [List.mem_singleton.mp hu]; exact ⟨hx, ⟨t0, by omega⟩, by decide⟩, by simp, List.pairwise_singleton _ _⟩
        · exact ⟨G, gvs, gs, rfl, e9, B9, e9 G _ (ne_at nG B7.hbs) hG, rg.tups (B8.tups e9) (gds_flat gs), by omega, okg⟩
      · rintro σ' H9 ⟨G', gvs', gs', rfl, e9, B9, hG', rg', lg', okg'⟩
        have hL9 := e9 L _ nLb hL8
        have T9 := T8.trans (B8.tups e9)
        have lk : ks.length ≤ 15 := by
          have e := congrArg List.length nm
          rw [List.length_map, List.length_take] at e
          have := okN.len
          omega
        refine ⟨_, rfl, .inl ⟨rfl, _, SqL.of hL9⟩, _, rfl, _, rfl, b, c, 8, rfl, by decide, by decide, B9, fun r HA r0 r8 eA BA => ⟨1, r, rfl, rfl, ?_⟩⟩
        refine some_const (G := IntIn 0 12) (i := 0) (vs := ([0, 0, 1, 2, 5, 12] : List Int).map V.int) rfl BA (fun Q' q => q) (by simp) (by simp) (ints_in (by decide)) fun v HB hv eB BB => ?_
        obtain ⟨w', rfl, w0, w12⟩ := hv
        have e9B := eA.trans' eB
        have nGb : G' ≠ b := fun z => by
          obtain ⟨x0, x1, x2, ms, hb9⟩ := B9
          have q1 := hb9.hb
          rw [← z, hG'] at q1
          cases q1
          cases gs' with
          | nil => cases rg'
          | cons g0 gr =>
            cases rg' with
            | cons r1 _ =>
              have r2 : Rp K H9 (.int x0) (.tup (g0.map Nd.d)) := r1
              cases r2
        have hGB := e9B G' _ nGb hG'
        have rgB := rg'.tups (B9.tups e9B) (gds_flat gs')
        refine ⟨_, rfl, once_go (.inl hGB) rgB (fit_gds (fun g hg => (okg' g hg).ne) (by omega)) fun q HC vs' es sC nq hq rpq on => ?_⟩
        obtain ⟨gs2, rfl, ok2, len2, nd2, asc2⟩ := once_gs (n := 4) lg' okg' on
        refine ⟨by show 4 ≤ sizeLine; decide, fun t nt => ?_⟩
        have sD : Same HC (upd HC t (.tup [.str y, .int (1 + r), .int w', .ref q])) := same_new (Same.refl HC) nt
        have hD : upd HC t (.tup [.str y, .int (1 + r), .int w', .ref q]) t = some (.tup [.str y, .int (1 + r), .int w', .ref q]) := upd_same
        generalize upd HC t (.tup [.str y, .int (1 + r), .int w', .ref q]) = HD at sD hD
        have e9D : Ext b H9 HD := e9B.trans' (ext_same (sC.trans sD))
        have hLD := e9D L _ nLb hL9
        have BD := BB.same (sC.trans sD)
        have lv : vs.length ≤ 15 := by rw [rp.len, List.length_map]; exact lk
        refine ⟨L, vs, .ref t, rfl, rfl, hLD, by rw [sizeLine_eq]; omega, ?_⟩
        have TP : Tups HD (upd HD L (.lst (vs ++ [.ref t]))) := Tups.put hLD
        refine ⟨⟨_, _, _, rfl⟩, ext_put (((E6.trans' e68).trans' e9).trans' e9D) nL0, BD.put nLb nLc, (T9.trans (B9.tups e9D)).trans TP, vs ++ [.ref t], ks ++ [⟨y, 1 + r, w', gs2⟩], upd_same, ?_, ?_, fun k' hk' => ?_⟩
        · rw [List.map_append]
          refine (rp8.tups ((B8.tups (e9.trans' e9D)).trans TP) (kds_flat ks)).append (.cons (.tup (TP _ _ hD) (.cons (.str y) (.cons (.int _) (.cons (.int _) (.cons (.tup (TP _ _ (sD _ _ hq)) (RpAll.tups ((Tups.same sD).trans TP) rpq (gds_flat gs2))) .nil))))) .nil)
        · rw [List.map_append, nm, List.take_succ, hy]
          rfl
        · rcases List.mem_append.mp hk' with z | z
          · exact oks k' z
          · rw [List.mem_singleton.mp z]
            exact ⟨⟨by show 1 ≤ 1 + r; omega, by show 1 + r ≤ 8; omega⟩, ⟨w0, w12⟩, ok2, len2, nd2, asc2⟩
    · rintro σ' H6 ⟨⟨x5, x6, x7, rfl⟩, E6, B6, T6', vs, ks, hL, rp, nm, oks⟩
      rw [List.length_map, List.take_length] at nm
      refine ⟨_, rfl, _, rfl, .inl ⟨L, vs, rfl, SqL.of hL, fun t nt => ⟨by show 2 ≤ sizeLine; decide, fun u nu => ?_⟩⟩⟩
      have s1 : Same H6 (upd H6 t (.tup vs)) := same_new (Same.refl H6) nt
      have g1 : upd H6 t (.tup vs) t = some (.tup vs) := upd_same
      generalize upd H6 t (.tup vs) = H7 at s1 g1 nu
      have s2 : Same H7 (upd H7 u (.tup [.ref p2, .ref t])) := same_new (Same.refl H7) nu
      have st := s1.trans s2
      refine k u _ ⟨rs, ks⟩ (E6.trans' (ext_same st)) (B6.same st) ((E6.trans' (ext_same s1)).dom' (B6.same s1) u nu) (.tup upd_same (.cons (.tup (st _ _ (T6' _ _ hr5)) (rp_of_strs rs)) (.cons (.tup (s2 _ _ g1) (RpAll.same st rp)) .nil))) ⟨okR, ?_, ?_⟩ ⟨?_, ?_⟩
      · show NamesOk (ks.map Kd.name)
        rw [nm]
        exact okN
      · show ∀ k ∈ ks, KOk rs (ks.map Kd.name) k
        rw [nm]
        exact oks
      · have e := congrArg List.length nm
        rw [List.length_map, N1.len] at e
        show ks.length ≤ n.toNat
        omega
      · show rs.length ≤ m.toNat
        rw [N2.len]
        omega
end
end Gy

namespace Gy
open PySem L2 PySem.Spec PyProof.Rows
abbrev sMore : Stmt := top 36
/-- no need, or one on the second row -/
def spMore (K : PySem.W.Frag) : Sp := fun vs H Q _ => ∃ (b c r : Addr) (u : V) (rows : List Str), vs = [.ref b, u, .ref r] ∧ BagC c H b ∧ H r = some (.tup (rows.map V.str)) ∧ rows.length = 2 ∧
  ∀ (p : Addr) (H' : Hp) (ys : List V) (g : List Nd), Ext b H H' → BagC c H' b → H p = none → H' p = some (.lst ys) → RpAll K H' ys (g.map Nd.d) → g.length ≤ 1 → (∀ names, ∀ x ∈ g, x.ok rows names) → Q (.ref p) H'
section
variable {P : Program} {w : World} {K : PySem.W.Frag} {mg : Str → Option Value} {base : Heap}
theorem scMore : FnScope ["_law_bag_here", "_law_sort", "_law_rows"] ["_law_bag_here", "_law_sort", "_law_rows"] (defScope sMore) := ⟨rfl, rfl, rfl, by decide +kernel, rfl, by decide +kernel, by decide +kernel⟩
theorem ok_more {f fT fS : Addr} {fd fdT fdS : FuncData} (F : Fun K "_law_more_needs" "_law_more_needs" sMore f fd) (T : TxtG K mg fT fS fdS) (GS : FnOk P w K mg base CX0 2 fS fdS ["_law_bag_here", "_law_things"] (spSome K))
    (GT : FnOk P w K mg base CX0 1 fT fdT ["_law_bag_here", "_law_upto"] spTake) (bT : L2.Binds K fdT ["_law_bag_here", "_law_upto"] []) : FnOk P w K mg base CX0 3 f fd ["_law_bag_here", "_law_sort", "_law_rows"] (spMore K) := by
  refine F.ok scMore (fun vs H Q E h => ?_) (fun cdv A outer s H vs Q E hr h => ?_)
  · obtain ⟨b, c, r, u, rows, rfl, _⟩ := h
    rfl
  · obtain ⟨b, c, r, u, rows, rfl, B, hr0, l2, k⟩ := h
    have nd := scMore.nd
    have hr1 := hr.mono (by decide : 1 ≤ 2)
    refine ⟨_, pss_cons (ps_if (pt_cmpR op_gt (pe_call GT hr1 rfl T.b.gT T.b.kT bT .nil pass0 (pa_cons (pv 0) (pa_cons pe_int pa_nil))) pe_int (nomark _)) (pss_one (ps_ret (pe_lst pa_nil))) pss_nil)
      (pss_one (ps_ret (pe_lst (pa_cons (pe_tup (pa_cons pe_str (pa_cons (pe_ix ix_tup (pv 2) pe_int (fun _ _ => rfl)) (pa_cons (pe_call GT hr1 rfl T.b.gT T.b.kT bT .nil pass0 (pa_cons (pv 0) (pa_cons pe_int pa_nil)))
        (pa_cons (pe_call GS hr rfl T.gS T.kS T.bS .nil pass0 (pa_cons (pv 0) (pa_cons (pe_lst (pa_cons pe_int (pa_cons pe_int (pa_cons pe_int (pa_cons pe_int pa_nil))))) pa_nil))) pa_nil))))) pa_nil)))), ?_⟩
    refine ⟨_, rfl, b, c, 3, rfl, by decide, by decide, B, fun z H1 z0 z3 e1 B1 => ⟨z, 0, rfl, rfl, _, rfl, ite2 (fun _ => ?_) fun _ => ?_⟩⟩
    · refine ⟨Nat.zero_le _, fun p np => ?_⟩
      have s : Same H1 (upd H1 p (.lst [])) := same_new (Same.refl H1) np
      exact k p _ [] [] (e1.trans' (ext_same s)) (B1.same s) (e1.dom' B1 p np) upd_same .nil (Nat.zero_le _) fun _ x m => absurd m List.not_mem_nil
    · have hr1' := B.tups e1 _ _ hr0
      obtain ⟨r0, r1, rfl⟩ : ∃ r0 r1, rows = [r0, r1] := by
        match rows, l2 with
        | [x, y], _ => exact ⟨x, y, rfl⟩
      refine ⟨_, rfl, r, _, 1, .str r1, rfl, rfl, SqT.of hr1', atI_nat (j := 1) rfl, _, rfl, b, c, 5, rfl, by decide, by decide, B1, fun t H2 t0 t5 e2 B2 => ?_⟩
      refine some_const (G := IntIn 0 9) (i := 0) (vs := ([9, 9, 0, 4] : List Int).map V.int) rfl B2 (fun Q' q => q) (by simp) (by simp) (ints_in (by decide)) fun v H3 hv e3 B3 => ?_
      obtain ⟨m, rfl, m0, m9⟩ := hv
      refine ⟨by show 4 ≤ sizeLine; decide, fun q nq => ⟨by show 1 ≤ sizeLine; decide, fun p np => ?_⟩⟩
      have s1 : Same H3 (upd H3 q (.tup [.str "row", .str r1, .int t, .int m])) := same_new (Same.refl H3) nq
      have g1 : upd H3 q (.tup [.str "row", .str r1, .int t, .int m]) q = some (.tup [.str "row", .str r1, .int t, .int m]) := upd_same
      generalize upd H3 q (.tup [.str "row", .str r1, .int t, .int m]) = H4 at s1 g1 np
      have s2 : Same H4 (upd H4 p (.lst [.ref q])) := same_new (Same.refl H4) np
      have E := ((e1.trans' e2).trans' e3).trans' (ext_same s1)
      exact k p _ [.ref q] [.row r1 t m] (E.trans' (ext_same s2)) (B3.same (s1.trans s2)) (E.dom' (B3.same s1) p np) upd_same (.cons (.tup (s2 _ _ g1) (.cons (.str _) (.cons (.str _) (.cons (.int _) (.cons (.int _) .nil))))) .nil) (Nat.le_refl 1)
        fun _ x hx => by rw [List.mem_singleton.mp hx]; exact ⟨by simp, ⟨t0, by omega⟩, m0, m9⟩
end
end Gy

namespace Gy
open PySem L2 PySem.Spec PyProof.Rows
/-! ### a dict from names -/
theorem putK_keys {kvs : List (Key × V)} {k : Key} {v : V} : ∀ x, x ∈ kvs.map (·.1) ∨ x = k → x ∈ (putK kvs k v).map (·.1) := fun x h => by
  unfold putK
  split
  · rename_i hs
    rw [List.map_map]
    have e : (kvs.map ((fun kv : Key × V => kv.1) ∘ fun kv => if kv.1 = k then (kv.1, v) else kv)) = kvs.map (·.1) := List.map_congr_left fun kv _ => by
      show (if kv.1 = k then (kv.1, v) else kv).1 = kv.1
      split <;> rfl
    rw [e]
    rcases h with h | h
    · exact h
    · obtain ⟨kv, hk, hd⟩ := List.any_eq_true.mp hs
      rw [h, ← of_decide_eq_true hd]
      exact List.mem_map_of_mem hk
  · rw [List.map_append]
    rcases h with h | h
    · exact List.mem_append_left _ h
    · rw [h]
      exact List.mem_append_right _ List.mem_cons_self
theorem putK_vals {P : V → Prop} {kvs : List (Key × V)} {k : Key} {v : V} (h : ∀ kv ∈ kvs, P kv.2) (hv : P v) : ∀ kv ∈ putK kvs k v, P kv.2 := fun kv hk => by
  unfold putK at hk
  split at hk
  · obtain ⟨kv', hm, rfl⟩ := List.mem_map.mp hk
    split
    · exact hv
    · exact h kv' hm
  · rcases List.mem_append.mp hk with z | z
    · exact h kv z
    · rw [List.mem_singleton.mp z]
      exact hv
theorem merge_has {P : V → Prop} : ∀ (more acc : List (Key × V)), (∀ kv ∈ acc, P kv.2) → (∀ kv ∈ more, P kv.2) → ∀ k, (k ∈ acc.map (·.1) ∨ k ∈ more.map (·.1)) → ∃ v, valV (mergeK acc more) k = some v ∧ P v
  | [], acc, h1, _, k, hk => by
    have hk : k ∈ acc.map (·.1) := hk.elim id fun z => absurd z List.not_mem_nil
    show ∃ v, valV acc k = some v ∧ P v
    unfold valV
    cases e : acc.find? fun kv => decide (kv.1 = k) with
    | none =>
      obtain ⟨kv, hm, rfl⟩ := List.mem_map.mp hk
      have := List.find?_eq_none.mp e kv hm
      simp at this
    | some kv => exact ⟨kv.2, rfl, h1 kv (List.mem_of_find?_eq_some e)⟩
  | kv :: more, acc, h1, h2, k, hk => by
    refine merge_has more (putK acc kv.1 kv.2) (putK_vals h1 (h2 kv List.mem_cons_self)) (fun x m => h2 x (List.mem_cons_of_mem _ m)) k ?_
    rcases hk with z | z
    · exact .inl (putK_keys k (.inl z))
    · rw [List.map_cons] at z
      rcases List.mem_cons.mp z with y | y
      · exact .inl (putK_keys k (.inr y))
      · exact .inr y
/-- the dict at a tells of each of these names a number from lo to hi -/
def Dct (H : Hp) (a : Addr) (ns : List Str) (lo hi : Int) : Prop := ∃ kvs, H a = some (.dK kvs) ∧ ∀ x ∈ ns, ∃ z : Int, valV kvs (Sum.inr x) = some (.int z) ∧ lo ≤ z ∧ z ≤ hi
theorem Dct.ext {b a : Addr} {H H' : Hp} {ns : List Str} {lo hi : Int} (d : Dct H a ns lo hi) (hab : a ≠ b) (e : Ext b H H') : Dct H' a ns lo hi := let ⟨kvs, h, q⟩ := d; ⟨kvs, e a _ hab h, q⟩
theorem Dct.put {a p : Addr} {H : Hp} {l : List V} {o : HO} {ns : List Str} {lo hi : Int} (d : Dct H a ns lo hi) (hp : H p = some (.lst l)) : Dct (upd H p o) a ns lo hi := by
  obtain ⟨kvs, h, q⟩ := d
  exact ⟨kvs, by rw [upd_ne (fun z => by rw [z, hp] at h; cases h)]; exact h, q⟩
theorem Dct.ne {b c a : Addr} {H : Hp} {ns : List Str} {lo hi : Int} (d : Dct H a ns lo hi) (B : BagC c H b) : a ≠ b := fun z => by
  obtain ⟨kvs, h, _⟩ := d
  obtain ⟨l, hl⟩ := B.lst
  rw [z, hl] at h
  cases h
theorem Dct.get {a : Addr} {H : Hp} {ns : List Str} {lo hi : Int} {x : Str} (d : Dct H a ns lo hi) (hx : x ∈ ns) : ∃ z : Int, DGet H a (.str x) (some (.int z)) ∧ lo ≤ z ∧ z ≤ hi := by
  obtain ⟨kvs, h, q⟩ := d
  obtain ⟨z, e, h1, h2⟩ := q x hx
  refine ⟨z, ?_, h1, h2⟩
  rw [← e]
  exact DGet.k (k := Sum.inr x) h
end Gy

namespace Gy
open PySem L2 PySem.Spec PyProof.Rows
theorem RpAll.at {K : PySem.W.Frag} {H : Hp} : ∀ {vs : List V} {ds : List D} {i : Nat} {v : V}, RpAll K H vs ds → vs[i]? = some v → ∃ d, ds[i]? = some d ∧ Rp K H v d
  | _, _, _, _, .nil, h => by simp at h
  | _, _, 0, _, .cons r _, h => by
    simp only [List.getElem?_cons_zero, Option.some.injEq] at h
    subst h
    exact ⟨_, rfl, r⟩
  | _, _, i + 1, _, .cons _ rs, h => RpAll.at (i := i) rs (by simpa using h)
/-- an if whose test changes nothing that matters -/
theorem st_or {Pc : Hp → Prop} {c : TT} {t : TS} {D : Ends} {σ : L2.St} {H : Hp} (hc : ∀ Q : Bool → Hp → Prop, (∀ k H', Pc H' → Q k H') → c σ H Q) (ht : ∀ H', Pc H' → t D σ H') (hn : ∀ H', Pc H' → D.nx σ H') : tIfS c t tNext D σ H := hc _ fun k H' p => by
  cases k with
  | true => exact iteT (ht H' p)
  | false => exact iteF (hn H' p)
abbrev sThreaded : Stmt := top 37
def spThreaded (K : PySem.W.Frag) : Sp := fun vs H Q _ => ∃ (b c : Addr) (n : Int), vs = [.ref b, .int n] ∧ 1 ≤ n ∧ n ≤ 15 ∧ BagC c H b ∧
  ∀ (p : Addr) (H' : Hp) (B : Bk), Ext b H H' → BagC c H' b → H p = none → Rp K H' (.ref p) B.d → BOk B → BSm B n.toNat 2 → Q (.ref p) H'
section
variable {P : Program} {w : World} {K : PySem.W.Frag} {mg : Str → Option Value} {base : Heap}
theorem scThreaded : FnScope ["_law_bag_here", "_law_kinds", "_law_names", "_law_rows", "_law_least", "_law_found", "_law_k", "_law_name", "_law_grounds", "_law_giver", "_law_tell", "_law_ground_here"] ["_law_bag_here", "_law_kinds"] (defScope sThreaded) := ⟨rfl, rfl, rfl, by decide +kernel, rfl, by decide +kernel, by decide +kernel⟩
theorem ok_threaded {f fT fS fN fM : Addr} {fd fdT fdS fdN fdM : FuncData} (F : Fun K "_law_threaded" "_law_threaded" sThreaded f fd) (T : TxtG K mg fT fS fdS) (O : TxtO mg) (dct : mg "dict" = none) (GS : FnOk P w K mg base CX0 2 fS fdS ["_law_bag_here", "_law_things"] (spSome K))
    (GT : FnOk P w K mg base CX0 1 fT fdT ["_law_bag_here", "_law_upto"] spTake) (bT : L2.Binds K fdT ["_law_bag_here", "_law_upto"] [])
    (gN : mg "_law_named" = some (.ref fN)) (bN : L2.Binds K fdN ["_law_bag_here", "_law_many"] []) (kN : PySem.W.keepIn K (.ref fN) = true) (GN : FnOk P w K mg base CX0 3 fN fdN ["_law_bag_here", "_law_many"] spNamed)
    (gM : mg "_law_mixed" = some (.ref fM)) (bM : L2.Binds K fdM ["_law_bag_here", "_law_things"] []) (kM : PySem.W.keepIn K (.ref fM) = true) (GM : FnOk P w K mg base CX0 2 fM fdM ["_law_bag_here", "_law_things"] spMixed) :
    FnOk P w K mg base CX0 4 f fd ["_law_bag_here", "_law_kinds"] (spThreaded K) := by
  refine F.ok scThreaded (fun vs H Q E h => ?_) (fun cdv A outer s H vs Q E hr h => ?_)
  · obtain ⟨b, c, n, rfl, _⟩ := h
    rfl
  · obtain ⟨b, c, n, rfl, n1, n15, B, k⟩ := h
    have nd := scThreaded.nd
    have hr1 := hr.mono (by decide : 1 ≤ 3)
    have hr2 := hr.mono (by decide : 2 ≤ 3)
    have hr3 := hr
    have hu := hr.units
    have hu0 := hu_of hr
    refine ⟨_, (pss_cons (ps_asg (pe_tup (pa_cons (pe_call GN hr3 rfl gN kN bN .nil pass0 (pa_cons (pv 0) (pa_cons (pe_op op_add pe_int (pe_call GT hr1 rfl T.b.gT T.b.kT bT .nil pass0 (pa_cons (pv 0) (pa_cons (pv 1) pa_nil)))) pa_nil))) (pa_cons (pe_call GN hr3 rfl gN kN bN .nil pass0 (pa_cons (pv 0) (pa_cons pe_int pa_nil))) pa_nil))) (pg_tup rfl (pgs_cons (pg_name (i := 2) nd rfl (Or.inl rfl)) (pgs_cons (pg_name (i := 3) nd rfl (Or.inr rfl)) pgs_nil)))) (pss_cons (ps_par (i := 4) (j := 5) rfl nd rfl rfl (by decide) rfl rfl (pa_cons (pe_callTy (call_dictP rfl) (by rfl) dct (by decide +kernel) (pa_cons (pe_lc (own := [("_law_name", 7)]) (g := gName 7) (tt := tYes) rfl nd (pi_tup (pv 2)) (blkOk_by (own := [("_law_name", 7)]) (N := ["_law_bag_here", "_law_kinds", "_law_names", "_law_rows", "_law_least", "_law_found", "_law_k", "_law_name", "_law_grounds", "_law_giver", "_law_tell", "_law_ground_here"]) (sc := defScope sThreaded) (by decide +kernel)) (fun _ _ _ _ _ => (pg_name (i := 7) nd rfl (Or.inl rfl))) (fun _ _ _ _ _ => pts_nil) (fun _ _ _ _ _ => (pe_tup (pa_cons (pv 7) (pa_cons (pe_op op_add pe_int (pe_call GT hr1 rfl T.b.gT T.b.kT bT .nil pass0 (pa_cons (pv 0) (pa_cons pe_int pa_nil)))) pa_nil))))) pa_nil)) (pa_cons (pe_lst pa_nil) pa_nil)) (by rfl)) (pss_cons (ps_for PassesOwn.never rfl (pi_range1 (by rfl) O.rng (pa_cons (pe_callB call_len_seq (by rfl) T.b.a.len PySem.boot_len (pa_cons (pv 2) pa_nil)) pa_nil)) (pg_name (i := 6) nd rfl (Or.inl rfl)) (pss_cons (ps_par (i := 7) (j := 8) rfl nd rfl rfl (by decide) rfl rfl (pa_cons (pe_ix ix_tup (pv 2) (pv 6) (fun _ _ => rfl)) (pa_cons (pe_lst pa_nil) pa_nil)) (by rfl)) (C8.pss_cut (ps_for PassesOwn.never rfl (pi_list (pe_slice sl_list (pe_call GM hr2 rfl gM kM bM .nil pass0 (pa_cons (pv 0) (pa_cons (pv 2) pa_nil))) po_none (po_some (pe_call GS hr2 rfl T.gS T.kS T.bS .nil pass0 (pa_cons (pv 0) (pa_cons (pe_lst (pa_cons pe_int (pa_cons pe_int (pa_cons pe_int (pa_cons pe_int (pa_cons pe_int pa_nil)))))) pa_nil)))))) (pg_name (i := 9) nd rfl (Or.inl rfl)) (pss_cons (ps_set (i := 10) nd rfl (Or.inl rfl) (pe_op op_add (pe_dget hu0 (pv 4) (pv 7) (fun _ _ => rfl)) (pe_op op_mul (pe_call GS hr2 rfl T.gS T.kS T.bS .nil pass0 (pa_cons (pv 0) (pa_cons (pe_lst (pa_cons pe_int (pa_cons pe_int (pa_cons pe_int pa_nil)))) pa_nil))) (pe_callTy call_int1 (by rfl) T.b.a.int (by decide +kernel) (pa_cons (pe_cmpR op_lt (pe_dget hu0 (pv 4) (pv 7) (fun _ _ => rfl)) pe_int (nomark _)) pa_nil))))) (pss_one (ps_expr (by exact (pe_bm PySem.F.plainAttrs_list PySem.F.slot_list_append PySem.F.type_list_append mt_append (pv 8) (pa_cons (pe_tup (pa_cons (pe_tup (pa_cons pe_str (pa_cons (pv 9) (pa_cons (pe_op op_add pe_int (pe_call GT hr1 rfl T.b.gT T.b.kT bT .nil pass0 (pa_cons (pv 0) (pa_cons (pe_dget hu0 (pv 4) (pv 9) (fun _ _ => rfl)) pa_nil)))) (pa_cons (pv 10) (pa_cons pe_int pa_nil)))))) pa_nil)) pa_nil))))))) (C8.pss_cut (ps_if (PW.pt (pw_or (pt_cmpR op_eq (pv 6) pe_int (nomark _)) (pw_or1 (pt_cmpR op_eq (pe_call GT hr1 rfl T.b.gT T.b.kT bT .nil pass0 (pa_cons (pv 0) (pa_cons pe_int pa_nil))) pe_int (nomark _))))) (pss_one (ps_expr (by exact (pe_bm PySem.F.plainAttrs_list PySem.F.slot_list_append PySem.F.type_list_append mt_append (pv 8) (pa_cons (pe_tup (pa_cons (pe_tup (pa_cons pe_str (pa_cons (pe_ix ix_tup (pv 3) pe_int (fun _ _ => rfl)) (pa_cons (pe_call GT hr1 rfl T.b.gT T.b.kT bT .nil pass0 (pa_cons (pv 0) (pa_cons pe_int pa_nil))) (pa_cons pe_int pa_nil))))) pa_nil)) pa_nil))))) pss_nil) (C8.pss_cut (ps_if (pt_cmpR op_eq (pe_call GT hr1 rfl T.b.gT T.b.kT bT .nil pass0 (pa_cons (pv 0) (pa_cons pe_int pa_nil))) pe_int (nomark _)) (pss_one (ps_setLc (i := 8) (own := [("_law_ground_here", 11)]) (g := gName 11) (tt := tYes) (te := tOnce K w (tOp (rCatT K) (tVar 11) (tTup (tCons (tTup (tCons (tC (.str "row")) (tCons (tOp (rIxT K) (tVar 3) (tC (.int 1))) (tCons (tC (.int 1)) (tCons (tC (.int 3)) tNil))))) tNil)))) rfl nd rfl rfl (sw_true rfl rfl rfl (by decide +kernel)) (pi_list (pv 8)) (blkOk_by (own := [("_law_ground_here", 11)]) (N := ["_law_bag_here", "_law_kinds", "_law_names", "_law_rows", "_law_least", "_law_found", "_law_k", "_law_name", "_law_grounds", "_law_giver", "_law_tell", "_law_ground_here"]) (sc := defScope sThreaded) (by decide +kernel)) (fun _ _ _ _ _ => (pg_name (i := 11) nd rfl (Or.inl rfl))) (fun _ _ _ _ _ => pts_nil) (fun _ _ _ _ _ => (pe_tupleOf (by rfl) O.tup (pe_callB (Ns.cr_sortedN rfl hu) (by rfl) O.srt (by decide +kernel) (pa_cons (pe_callTy (Ns.cr_setN rfl hu) (by rfl) O.set (by decide +kernel) (pa_cons (pe_op op_catT (pv 11) (pe_tup (pa_cons (pe_tup (pa_cons pe_str (pa_cons (pe_ix ix_tup (pv 3) pe_int (fun _ _ => rfl)) (pa_cons pe_int (pa_cons pe_int pa_nil))))) pa_nil))) pa_nil)) pa_nil)))))) pss_nil) (pss_one (ps_expr (by exact (pe_bm PySem.F.plainAttrs_list PySem.F.slot_list_append PySem.F.type_list_append mt_append (pv 5) (pa_cons (pe_tup (pa_cons (pv 7) (pa_cons (pe_op op_add pe_int (pe_call GT hr1 rfl T.b.gT T.b.kT bT .nil pass0 (pa_cons (pv 0) (pa_cons pe_int pa_nil)))) (pa_cons (pe_call GS hr2 rfl T.gS T.kS T.bS .nil pass0 (pa_cons (pv 0) (pa_cons (pe_lst (pa_cons pe_int (pa_cons pe_int (pa_cons pe_int (pa_cons pe_int (pa_cons pe_int (pa_cons pe_int pa_nil))))))) pa_nil))) (pa_cons (pe_tupleOf (by rfl) O.tup (pe_callB (Ns.cr_sortedN rfl hu) (by rfl) O.srt (by decide +kernel) (pa_cons (pe_callTy (Ns.cr_setN rfl hu) (by rfl) O.set (by decide +kernel) (pa_cons (pv 8) pa_nil)) pa_nil))) pa_nil))))) pa_nil)))))))))) (pss_one (ps_ret (pe_tup (pa_cons (pv 3) (pa_cons (pe_tupleOf (by rfl) O.tup (pv 5)) pa_nil)))))))), ?_⟩
    refine ⟨_, rfl, _, rfl, _, rfl, b, c, n, rfl, by omega, by omega, B, fun r1 H1 r10 r11 e1 B1 => ⟨1, r1, rfl, rfl, b, c, (1 + r1).toNat, (by rw [Int.toNat_of_nonneg (by omega : 0 ≤ 1 + r1)]; rfl), B1, fun p1 H2 ns e2 B2 np1 hp1 N1 => ?_⟩⟩
    refine ⟨_, rfl, b, c, 2, rfl, B2, fun p2 H4 rs e4 B4 np2 hp2 N2 => ?_⟩
    refine ⟨by show 2 ≤ sizeLine; decide, fun q nq => ?_⟩
    have s5 : Same H4 (upd H4 q (.tup [.ref p1, .ref p2])) := same_new (Same.refl H4) nq
    have h5 : upd H4 q (.tup [.ref p1, .ref p2]) q = some (.tup [.ref p1, .ref p2]) := upd_same
    generalize upd H4 q (.tup [.ref p1, .ref p2]) = H5 at s5 h5
    refine ⟨q, _, rfl, SqT.of h5, rfl, _, _, rfl, _, _, rfl, rfl, ?_⟩
    have E5 : Ext b H H5 := ((e1.trans' e2).trans' e4).trans' (ext_same s5)
    have B5 := B4.same s5
    have hn5 : H5 p1 = some (.tup (ns.map V.str)) := ((B2.tups e4).trans (.same s5)) _ _ hp1
    have hr5 : H5 p2 = some (.tup (rs.map V.str)) := s5 _ _ hp2
    have okN := N1.ok (by omega)
    have okR := N2.ok (by decide)
    have nl := okN.len
    obtain ⟨ra, rb, ers⟩ : ∃ ra rb, rs = [ra, rb] := by
      have l2 := N2.len
      match rs, l2 with
      | [x, y], _ => exact ⟨x, y, rfl⟩
    try dsimp only
    show tSeq _ _ _ [some (.ref b), some (.int n), some (.ref p1), some (.ref p2), none, none, none, none, none, none, none, none] H5
    refine ⟨_, rfl, p1, rfl, ⟨_, SqT.of hn5⟩, fun D nD => ?_⟩
    have nDb : D ≠ b := ne_at nD B5.hbs
    have nDc : D ≠ c := ne_at nD B5.hcs
    refine lc_tup (xs := ns.map V.str) (fun i H' => Ext b H5 H' ∧ BagC c H' b ∧ ∃ (ps : List Addr) (kvs : List (Key × V)), H' D = some (.lst (ps.map V.ref)) ∧ ps.length = i ∧ kvs.map (·.1) = (ns.take i).map Sum.inr ∧ Paired (fun p kv => H' p = some (.tup [kV kv.1, kv.2])) ps kvs ∧ ∀ kv ∈ kvs, IntIn 1 3 kv.2)
      ⟨ext_put (Ext.refl' b H5) nD, B5.put nDb nDc, [], [], upd_same, rfl, rfl, .nil, fun x m => absurd m List.not_mem_nil⟩ (fun i H' _ z => SqT.of (B5.tups z.1 _ _ hn5)) ?_ ?_
    · rintro i x H' hi ⟨e, B', ps, kvs, hD, lp, kk, pr, iv⟩
      obtain ⟨y, hy, rfl⟩ : ∃ y, ns[i]? = some y ∧ x = .str y := by
        rw [List.getElem?_map] at hi
        cases z : ns[i]? with
        | none => rw [z] at hi; cases hi
        | some y =>
          rw [z] at hi
          exact ⟨y, rfl, (Option.some.inj hi).symm⟩
      have il : i < ns.length := (List.getElem?_eq_some_iff.mp hy).1
      refine ⟨rfl, tyes_go ⟨_, rfl, _, rfl, b, c, 3, rfl, by decide, by decide, B', fun z H6 z0 z3 e6 B6 => ⟨1, z, rfl, rfl, by show 2 ≤ sizeLine; decide, fun t nt => ?_⟩⟩⟩
      have s7 : Same H6 (upd H6 t (.tup [.str y, .int (1 + z)])) := same_new (Same.refl H6) nt
      have h7 : upd H6 t (.tup [.str y, .int (1 + z)]) t = some (.tup [.str y, .int (1 + z)]) := upd_same
      generalize upd H6 t (.tup [.str y, .int (1 + z)]) = H7 at s7 h7
      have hD7 := s7 _ _ (e6 D _ nDb hD)
      have TP : Tups H7 (upd H7 D (.lst (ps.map V.ref ++ [.ref t]))) := Tups.put hD7
      refine ⟨ps.map V.ref, hD7, by rw [List.length_map, lp, sizeLine_eq]; omega, ext_put ((e.trans' e6).trans' (ext_same s7)) nD, (B6.same s7).put nDb nDc, ps ++ [t], kvs ++ [(Sum.inr y, .int (1 + z))], by rw [upd_same, List.map_append]; rfl, by rw [List.length_append, lp]; rfl, ?_, ?_, fun kv hk => ?_⟩
      · rw [List.map_append, kk, List.take_succ, hy, List.map_append]
        rfl
      · exact Paired.snoc (Paired.mapP pr fun p kv h => TP _ _ (s7 _ _ (B'.tups e6 _ _ h))) (TP _ _ h7)
      · rcases List.mem_append.mp hk with u | u
        · exact iv kv u
        · rw [List.mem_singleton.mp u]
          exact ⟨1 + z, rfl, by omega, by omega⟩
    rintro H6 ⟨e6, B6, ps, kvs, hD, lp, kk, pr, iv⟩
    rw [List.length_map, List.take_length] at kk
    refine ⟨D, ps, kvs, rfl, SqL.of hD, Paired.mapP pr fun p kv h => SqT.of h, fun a na => ⟨Nat.zero_le _, fun L nL => ⟨_, _, rfl, ?_⟩⟩⟩
    have s7 : Same H6 (upd H6 a (.dK (mergeK [] kvs))) := same_new (Same.refl H6) na
    have h7 : upd H6 a (.dK (mergeK [] kvs)) a = some (.dK (mergeK [] kvs)) := upd_same
    generalize upd H6 a (.dK (mergeK [] kvs)) = H7 at s7 h7 nL
    have dct7 : Dct H7 a ns 1 3 := ⟨_, h7, fun x hx => by
      obtain ⟨v, e, z, rfl, z1, z3⟩ := merge_has (P := IntIn 1 3) kvs [] (fun kv m => absurd m List.not_mem_nil) iv (Sum.inr x) (.inr (by rw [kk]; exact List.mem_map_of_mem hx))
      exact ⟨z, e, z1, z3⟩⟩
    have B7 := B6.same s7
    have E7 : Ext b H H7 := (E5.trans' e6).trans' (ext_same s7)
    have T7 : Tups H5 H7 := (B5.tups e6).trans (.same s7)
    have nab := dct7.ne B7
    have nLb : L ≠ b := ne_at nL B7.hbs
    have nLc : L ≠ c := ne_at nL B7.hcs
    have nL0 : H L = none := E7.dom' B7 L nL
    have s8 : Same H7 (upd H7 L (.lst [])) := same_new (Same.refl H7) nL
    have h8 : upd H7 L (.lst []) L = some (.lst []) := upd_same
    generalize upd H7 L (.lst []) = H8 at s8 h8
    try dsimp only
    show tSeq _ _ _ [some (.ref b), some (.int n), some (.ref p1), some (.ref p2), some (.ref a), some (.ref L), none, none, none, none, none, none] H8
    have ez : (((ns.map V.str).length : Nat) : Int).toNat = ns.length := by rw [List.length_map]; rfl
    refine ⟨_, rfl, p1, ns.map V.str, rfl, .inr (SqT.of (s8 _ _ (T7 _ _ hn5))), _, rfl, by rw [List.length_map]; omega, by rw [List.length_map]; omega, ?_⟩
    rw [ez]
    refine for_range (n := ns.length) (fun i σ' H' => (∃ x6 x7 x8 x9 x10 x11, σ' = [some (.ref b), some (.int n), some (.ref p1), some (.ref p2), some (.ref a), some (.ref L), x6, x7, x8, x9, x10, x11]) ∧ Ext b H H' ∧ BagC c H' b ∧ Tups H5 H' ∧ Dct H' a ns 1 3 ∧
        ∃ (vs : List V) (ks : List Kd), H' L = some (.lst vs) ∧ RpAll K H' vs (ks.map Kd.d) ∧ ks.map Kd.name = ns.take i ∧ ∀ k ∈ ks, KOk rs ns k)
      ⟨⟨_, _, _, _, _, _, rfl⟩, E7.trans' (ext_same s8), B7.same s8, T7.trans (.same s8), dct7.ext nab (ext_same s8), [], [], h8, .nil, rfl, fun x m => absurd m List.not_mem_nil⟩ ?_ ?_
    · rintro i σ' Hi il ⟨⟨x6, x7, x8, x9, x10, x11, rfl⟩, Ei, Bi, Ti, di, vs, ks, hL, rp, nm, oks⟩
      obtain ⟨y, hy⟩ : ∃ y, ns[i]? = some y := ⟨_, List.getElem?_eq_getElem il⟩
      have yin : y ∈ ns := List.mem_of_getElem? hy
      try dsimp only
      show tSeq _ _ _ [some (.ref b), some (.int n), some (.ref p1), some (.ref p2), some (.ref a), some (.ref L), some (.int (0 + (i : Int))), x7, x8, x9, x10, x11] Hi
      refine ⟨_, rfl, _, rfl, p1, _, _, .str y, rfl, rfl, SqT.of (Ti _ _ hn5), (by rw [Int.zero_add]; exact atI_nat (by rw [List.getElem?_map, hy]; rfl)), Nat.zero_le _, fun G nG => ⟨_, _, rfl, ?_⟩⟩
      have nGb : G ≠ b := ne_at nG Bi.hbs
      have nGc : G ≠ c := ne_at nG Bi.hcs
      have E0 : Ext b Hi (upd Hi G (.lst [])) := ext_new (Ext.refl' b Hi) nG
      have B0 : BagC c (upd Hi G (.lst [])) b := Bi.put nGb nGc
      have hG0 : upd Hi G (.lst []) G = some (.lst []) := upd_same
      generalize upd Hi G (.lst []) = H0 at E0 B0 hG0
      have dx : ∀ {H'}, Ext b Hi H' → Dct H' a ns 1 3 := fun e => di.ext nab e
      have tx : ∀ {H'}, Ext b Hi H' → Tups H5 H' := fun e => Ti.trans (Bi.tups e)
      try dsimp only
      show C8.tCut _ _ _ [some (.ref b), some (.int n), some (.ref p1), some (.ref p2), some (.ref a), some (.ref L), some (.int (0 + (i : Int))), some (.str y), some (.ref G), x9, x10, x11] H0
      refine ⟨fun σ' H' => ∃ x9 x10, σ' = [some (.ref b), some (.int n), some (.ref p1), some (.ref p2), some (.ref a), some (.ref L), some (.int (0 + (i : Int))), some (.str y), some (.ref G), x9, x10, x11] ∧ Ext b Hi H' ∧ BagC c H' b ∧
        ∃ (gvs : List V) (gs : List (List Nd)), H' G = some (.lst gvs) ∧ RpAll K H' gvs (gs.map gd) ∧ gs.length ≤ 3 ∧ ∀ g ∈ gs, GOk rs ns 2 g, ?_, ?_⟩
      · have n1b : p1 ≠ b := fun z => by
          obtain ⟨l, hl⟩ := B0.lst
          have q := tx E0 _ _ hn5
          rw [z, hl] at q
          cases q
        refine ⟨_, rfl, _, rfl, b, c, p1, ns.map V.str, rfl, n1b, .inr (tx E0 _ _ hn5), by rw [List.length_map]; omega, B0, fun m H9 ys e9 B9 nm' hm pm => ?_⟩
        obtain ⟨zs, pz, rfl⟩ := Ns.perm_back V.str pm rfl
        have nmb : m ≠ b := ne_at nm' B0.hbs
        refine some_const (G := IntIn 1 3) (i := 0) (vs := ([1, 1, 2, 2, 3] : List Int).map V.int) rfl B9 (fun Q' q => q) (by simp) (by simp) (ints_in (by decide)) fun v HA hv eA BA => ?_
        obtain ⟨j, rfl, j1, j3⟩ := hv
        refine ⟨j, rfl, m, zs.map V.str, rfl, SqL.of (eA m _ nmb hm), fun s nS => ⟨s, rfl, ⟨_, SqL.of upd_same⟩, ?_⟩⟩
        have sB : Same HA (upd HA s (.lst (cutV (zs.map V.str) none (some j)))) := same_new (Same.refl HA) nS
        have hB : upd HA s (.lst (cutV (zs.map V.str) none (some j))) s = some (.lst ((zs.take j.toNat).map V.str)) := by
          rw [upd_same, List.map_take, ← cut_take, Int.toNat_of_nonneg (by omega)]
        generalize upd HA s (.lst (cutV (zs.map V.str) none (some j))) = HB at sB hB
        have eB : Ext b Hi HB := ((E0.trans' e9).trans' eA).trans' (ext_same sB)
        have nSb : s ≠ b := ne_at nS BA.hbs
        have e0B : Ext b H0 HB := (e9.trans' eA).trans' (ext_same sB)
        have nSG : s ≠ G := ne_at nS ⟨_, (e9.trans' eA) G _ nGb hG0⟩
        refine for_list (xs := (zs.take j.toNat).map V.str) (fun i' σ' H' => (∃ x9 x10, σ' = [some (.ref b), some (.int n), some (.ref p1), some (.ref p2), some (.ref a), some (.ref L), some (.int (0 + (i : Int))), some (.str y), some (.ref G), x9, x10, x11]) ∧ H' s = some (.lst ((zs.take j.toNat).map V.str)) ∧ Ext b Hi H' ∧ BagC c H' b ∧
          ∃ (gvs : List V) (gs : List (List Nd)), H' G = some (.lst gvs) ∧ RpAll K H' gvs (gs.map gd) ∧ gs.length = i' ∧ ∀ g ∈ gs, GOk rs ns 2 g)
          ⟨⟨_, _, rfl⟩, hB, eB, BA.same sB, [], [], e0B G _ nGb hG0, .nil, rfl, fun x m => absurd m List.not_mem_nil⟩ (fun i' σ' H' _ z => SqL.of z.2.1) ?_ ?_
        · rintro i' x σ' HC hi ⟨⟨x9, x10, rfl⟩, hs', eC, BC, gvs, gs, hG, rg, lg, okg⟩
          obtain ⟨g, hg, rfl⟩ : ∃ g, g ∈ ns ∧ x = .str g := by
            obtain ⟨z, hz, e⟩ := List.mem_map.mp (List.mem_of_getElem? hi)
            exact ⟨z, pz.mem_iff.mp (List.mem_of_mem_take hz), e.symm⟩
          have il' : i' < 3 := by
            have q := (List.getElem?_eq_some_iff.mp hi).1
            rw [List.length_map, List.length_take] at q
            omega
          obtain ⟨z1, g1, z1a, z1b⟩ := (dx eC).get yin
          try dsimp only
          show tSeq _ _ _ [some (.ref b), some (.int n), some (.ref p1), some (.ref p2), some (.ref a), some (.ref L), some (.int (0 + (i : Int))), some (.str y), some (.ref G), some (.str g), x10, x11] HC
          refine ⟨_, rfl, _, rfl, a, _, rfl, g1, ?_⟩
          refine some_const (G := IntIn 0 1) (i := 0) (vs := ([0, 0, 1] : List Int).map V.int) rfl BC (fun Q' q => q) (by simp) (by simp) (ints_in (by decide)) fun v HD hv eD BD => ?_
          obtain ⟨u, rfl, u0, u1⟩ := hv
          have eCD := eC.trans' eD
          obtain ⟨z2, g2, z2a, z2b⟩ := (dx eCD).get yin
          obtain ⟨z3, g3, z3a, z3b⟩ := (dx eCD).get hg
          refine ⟨_, rfl, _, rfl, a, _, rfl, g2, z2, 4, rfl, rfl, .inr ⟨_, rfl, u, _, rfl, rfl, .inl ⟨by omega, by omega⟩, z1, _, rfl, rfl, ?_⟩⟩
          obtain ⟨t, ht⟩ : ∃ t : Int, z1 + u * (if decide (z2 < 4) then 1 else 0) = t := ⟨_, rfl⟩
          dsimp only
          rw [ht]
          have tb : 0 ≤ t ∧ t ≤ 4 := by
            rw [← ht]
            rcases (by omega : u = 0 ∨ u = 1) with rfl | rfl <;> split <;> omega
          have hGD := eD G _ nGb hG
          try dsimp only
          show tDrop _ _ [some (.ref b), some (.int n), some (.ref p1), some (.ref p2), some (.ref a), some (.ref L), some (.int (0 + (i : Int))), some (.str y), some (.ref G), some (.str g), some (.int t), x11] HD
          refine ⟨_, rfl, .inl ⟨rfl, _, SqL.of hGD⟩, _, rfl, _, rfl, _, rfl, _, rfl, a, _, rfl, g3, b, c, z3, rfl, by omega, by omega, BD, fun r HE r0 r1 eE BE => ⟨1, r, rfl, rfl, _, rfl, by show 5 ≤ sizeLine; decide, fun t1 nt1 => ?_⟩⟩
          have s1 : Same HE (upd HE t1 (.tup [.str "kind", .str g, .int (1 + r), .int t, .int 9])) := same_new (Same.refl HE) nt1
          have k1 : upd HE t1 (.tup [.str "kind", .str g, .int (1 + r), .int t, .int 9]) t1 = some (.tup [.str "kind", .str g, .int (1 + r), .int t, .int 9]) := upd_same
          generalize upd HE t1 (.tup [.str "kind", .str g, .int (1 + r), .int t, .int 9]) = HF at s1 k1
          refine ⟨by show 1 ≤ sizeLine; decide, fun t2 nt2 => ?_⟩
          have s2 : Same HF (upd HF t2 (.tup [.ref t1])) := same_new (Same.refl HF) nt2
          have k2 : upd HF t2 (.tup [.ref t1]) t2 = some (.tup [.ref t1]) := upd_same
          generalize upd HF t2 (.tup [.ref t1]) = HG at s2 k2
          have eCG : Ext b HC HG := (eD.trans' eE).trans' (ext_same (s1.trans s2))
          have hGG := eCG G _ nGb hG
          have TP : Tups HG (upd HG G (.lst (gvs ++ [.ref t2]))) := Tups.put hGG
          have lv : gvs.length = i' := by rw [rg.len, List.length_map, lg]
          refine ⟨G, gvs, .ref t2, rfl, rfl, hGG, by rw [lv, sizeLine_eq]; omega, ⟨_, _, rfl⟩, ?_, ext_put (eC.trans' eCG) nG, (BE.same (s1.trans s2)).put nGb nGc, gvs ++ [.ref t2], gs ++ [[.knd g (1 + r) t 9]], upd_same, ?_, by rw [List.length_append, lg]; rfl, fun g' hg' => ?_⟩
          · rw [upd_ne nSG]
            exact eCG s _ nSb hs'
          · rw [List.map_append]
            exact (rg.tups ((BC.tups eCG).trans TP) (gds_flat gs)).append (.cons (.tup (TP _ _ k2) (.cons (.tup (TP _ _ (s2 _ _ k1)) (.cons (.str _) (.cons (.str _) (.cons (.int _) (.cons (.int _) (.cons (.int _) .nil)))))) .nil)) .nil)
          · rcases List.mem_append.mp hg' with z | z
            · exact okg g' z
            · rw [List.mem_singleton.mp z]
              exact ⟨by simp, by show 1 ≤ 2; decide, fun w' hw => by rw [List.mem_singleton.mp hw]; exact ⟨hg, ⟨by omega, by omega⟩, tb, by decide⟩, by simp, List.pairwise_singleton _ _⟩
        · rintro σ' HC ⟨⟨x9, x10, rfl⟩, hs', eC, BC, gvs, gs, hG, rg, lg, okg⟩
          exact ⟨_, _, rfl, eC, BC, gvs, gs, hG, rg, by rw [lg, List.length_map, List.length_take]; omega, okg⟩
      · rintro σ' HC ⟨x9, x10, rfl, eC, BC, gvs, gs, hG, rg, lg, okg⟩
        have okR2 : p2 ≠ b := fun z => by
          obtain ⟨l, hl⟩ := BC.lst
          have q := tx eC _ _ hr5
          rw [z, hl] at q
          cases q
        have ixr : ∀ (j : Nat) (z : Str), rs[j]? = some z → atI (rs.map V.str) ((j : Nat) : Int) = some (.str z) := fun j z e => atI_nat (by rw [List.getElem?_map, e]; rfl)
        have rin : ra ∈ rs ∧ rb ∈ rs := by rw [ers]; simp
        try dsimp only
        show C8.tCut _ _ _ [some (.ref b), some (.int n), some (.ref p1), some (.ref p2), some (.ref a), some (.ref L), some (.int (0 + (i : Int))), some (.str y), some (.ref G), x9, x10, x11] HC
        refine ⟨fun σ' H' => σ' = [some (.ref b), some (.int n), some (.ref p1), some (.ref p2), some (.ref a), some (.ref L), some (.int (0 + (i : Int))), some (.str y), some (.ref G), x9, x10, x11] ∧ Ext b Hi H' ∧ BagC c H' b ∧
          ∃ (gvs : List V) (gs : List (List Nd)), H' G = some (.lst gvs) ∧ RpAll K H' gvs (gs.map gd) ∧ gs.length ≤ 4 ∧ ∀ g ∈ gs, GOk rs ns 2 g, ?_, ?_⟩
        · refine st_or (Pc := fun H' => Ext b HC H' ∧ BagC c H' b) (fun Q q => ⟨_, rfl, rfl, _, rfl, ite2 (fun _ => q _ _ ⟨Ext.refl' b HC, BC⟩) fun _ => ⟨_, rfl, b, c, 4, rfl, by decide, by decide, BC, fun z HD z0 z4 eD BD => ⟨rfl, _, rfl, q _ _ ⟨eD, BD⟩⟩⟩⟩) ?_ ?_
          · rintro HD ⟨eD, BD⟩
            have hGD := eD G _ nGb hG
            refine ⟨_, rfl, .inl ⟨rfl, _, SqL.of hGD⟩, _, rfl, p2, _, 0, .str ra, rfl, rfl, SqT.of (tx (eC.trans' eD) _ _ hr5), ixr 0 ra (by rw [ers]; rfl), _, rfl, b, c, 5, rfl, by decide, by decide, BD, fun t HE t0 t5 eE BE => ⟨by show 4 ≤ sizeLine; decide, fun t1 nt1 => ?_⟩⟩
            have s1 : Same HE (upd HE t1 (.tup [.str "row", .str ra, .int t, .int 9])) := same_new (Same.refl HE) nt1
            have k1 : upd HE t1 (.tup [.str "row", .str ra, .int t, .int 9]) t1 = some (.tup [.str "row", .str ra, .int t, .int 9]) := upd_same
            generalize upd HE t1 (.tup [.str "row", .str ra, .int t, .int 9]) = HF at s1 k1
            refine ⟨by show 1 ≤ sizeLine; decide, fun t2 nt2 => ?_⟩
            have s2 : Same HF (upd HF t2 (.tup [.ref t1])) := same_new (Same.refl HF) nt2
            have k2 : upd HF t2 (.tup [.ref t1]) t2 = some (.tup [.ref t1]) := upd_same
            generalize upd HF t2 (.tup [.ref t1]) = HG at s2 k2
            have eCG : Ext b HC HG := (eD.trans' eE).trans' (ext_same (s1.trans s2))
            have hGG := eCG G _ nGb hG
            have TP : Tups HG (upd HG G (.lst (gvs ++ [.ref t2]))) := Tups.put hGG
            have lv : gvs.length ≤ 3 := by rw [rg.len, List.length_map]; exact lg
            refine ⟨G, gvs, .ref t2, rfl, rfl, hGG, by rw [sizeLine_eq]; omega, rfl, ext_put (eC.trans' eCG) nG, (BE.same (s1.trans s2)).put nGb nGc, gvs ++ [.ref t2], gs ++ [[.row ra t 9]], upd_same, ?_, by rw [List.length_append]; simp only [List.length_cons, List.length_nil]; omega, fun g' hg' => ?_⟩
            · rw [List.map_append]
              exact (rg.tups ((BC.tups eCG).trans TP) (gds_flat gs)).append (.cons (.tup (TP _ _ k2) (.cons (.tup (TP _ _ (s2 _ _ k1)) (.cons (.str _) (.cons (.str _) (.cons (.int _) (.cons (.int _) .nil))))) .nil)) .nil)
            · rcases List.mem_append.mp hg' with z | z
              · exact okg g' z
              · rw [List.mem_singleton.mp z]
                exact ⟨by simp, by show 1 ≤ 2; decide, fun w' hw => by rw [List.mem_singleton.mp hw]; exact ⟨rin.1, ⟨t0, by omega⟩, by decide⟩, by simp, List.pairwise_singleton _ _⟩
          · rintro HD ⟨eD, BD⟩
            exact ⟨rfl, eC.trans' eD, BD, gvs, gs, eD G _ nGb hG, rg.tups (BC.tups eD) (gds_flat gs), by omega, okg⟩
        · rintro σ' HD ⟨rfl, eD, BD, gvs, gs, hG, rg, lg, okg⟩
          try dsimp only
          show C8.tCut _ _ _ [some (.ref b), some (.int n), some (.ref p1), some (.ref p2), some (.ref a), some (.ref L), some (.int (0 + (i : Int))), some (.str y), some (.ref G), x9, x10, x11] HD
          refine ⟨fun σ' H' => ∃ G', σ' = [some (.ref b), some (.int n), some (.ref p1), some (.ref p2), some (.ref a), some (.ref L), some (.int (0 + (i : Int))), some (.str y), some (.ref G'), x9, x10, x11] ∧ Ext b Hi H' ∧ BagC c H' b ∧ G' ≠ b ∧
            ∃ (gvs : List V) (gs : List (List Nd)), H' G' = some (.lst gvs) ∧ RpAll K H' gvs (gs.map gd) ∧ gs.length ≤ 4 ∧ ∀ g ∈ gs, GOk rs ns 3 g, ?_, ?_⟩
          · refine st_or (Pc := fun H' => Ext b HD H' ∧ BagC c H' b) (fun Q q => ⟨_, rfl, b, c, 4, rfl, by decide, by decide, BD, fun z HE z0 z4 eE BE => ⟨rfl, _, rfl, q _ _ ⟨eE, BE⟩⟩⟩) ?_ ?_
            · rintro HE ⟨eE, BE⟩
              have hGE := eE G _ nGb hG
              have rgE := rg.tups (BD.tups eE) (gds_flat gs)
              have lv : gvs.length ≤ 4 := by rw [rg.len, List.length_map]; exact lg
              refine ⟨_, rfl, G, rfl, ⟨_, SqL.of hGE⟩, fun D nD => ?_⟩
              have nDb : D ≠ b := ne_at nD BE.hbs
              have nDc : D ≠ c := ne_at nD BE.hcs
              have nGD : G ≠ D := fun z => by rw [← z, hGE] at nD; cases nD
              refine lc_list (xs := gvs) (fun i' H' => Ext b HE H' ∧ BagC c H' b ∧ ∃ (vs2 : List V) (gs2 : List (List Nd)), H' D = some (.lst vs2) ∧ RpAll K H' vs2 (gs2.map gd) ∧ gs2.length = i' ∧ ∀ g ∈ gs2, GOk rs ns 3 g)
                ⟨ext_put (Ext.refl' b HE) nD, BE.put nDb nDc, [], [], upd_same, .nil, rfl, fun x m => absurd m List.not_mem_nil⟩ (fun i' H' _ z => SqL.of (z.1 G _ nGb hGE)) ?_ ?_
              · rintro i' x HF hi ⟨eF, BF, vs2, gs2, hD, r2, l2, ok2⟩
                obtain ⟨d, hd, rd⟩ := RpAll.at (rgE.tups (BE.tups eF) (gds_flat gs)) hi
                obtain ⟨g, hg, rfl⟩ := List.mem_map.mp (List.mem_of_getElem? hd)
                have il' : i' < 4 := by
                  have q := (List.getElem?_eq_some_iff.mp hi).1
                  omega
                obtain ⟨ga, xs', rfl, hga, rx⟩ : ∃ ga xs', x = .ref ga ∧ HF ga = some (.tup xs') ∧ RpAll K HF xs' (g.map Nd.d) := by
                  have r' : Rp K HF x (.tup (g.map Nd.d)) := rd
                  cases r' with
                  | tup h r => exact ⟨_, _, rfl, h, r⟩
                have gok := okg g hg
                have lx : xs'.length ≤ 2 := by rw [rx.len, List.length_map]; exact gok.len
                have nx : xs' ≠ [] := fun z => by
                  have q := rx.len
                  rw [z, List.length_map] at q
                  exact gok.ne (List.length_eq_zero_iff.mp q.symm)
                refine ⟨rfl, tyes_go ⟨_, rfl, _, rfl, p2, _, 1, .str rb, rfl, rfl, SqT.of (tx ((eD.trans' eE).trans' eF) _ _ hr5), ixr 1 rb (by rw [ers]; rfl), by show 4 ≤ sizeLine; decide, fun t1 nt1 => ?_⟩⟩
                have s1 : Same HF (upd HF t1 (.tup [.str "row", .str rb, .int 1, .int 3])) := same_new (Same.refl HF) nt1
                have k1 : upd HF t1 (.tup [.str "row", .str rb, .int 1, .int 3]) t1 = some (.tup [.str "row", .str rb, .int 1, .int 3]) := upd_same
                generalize upd HF t1 (.tup [.str "row", .str rb, .int 1, .int 3]) = H1' at s1 k1
                refine ⟨by show 1 ≤ sizeLine; decide, fun t2 nt2 => ?_⟩
                have s2 : Same H1' (upd H1' t2 (.tup [.ref t1])) := same_new (Same.refl H1') nt2
                have k2 : upd H1' t2 (.tup [.ref t1]) t2 = some (.tup [.ref t1]) := upd_same
                generalize upd H1' t2 (.tup [.ref t1]) = H2' at s2 k2
                refine ⟨ga, t2, xs', [.ref t1], rfl, rfl, SqT.of (s2 _ _ (s1 _ _ hga)), SqT.of k2, nx, by rw [sizeLine_eq]; simp only [List.length_cons, List.length_nil]; omega, (fun z => by cases z), fun _ u nu => ?_⟩
                have s3 : Same H2' (upd H2' u (.tup (xs' ++ [.ref t1]))) := same_new (Same.refl H2') nu
                have k3 : upd H2' u (.tup (xs' ++ [.ref t1])) u = some (.tup (xs' ++ [.ref t1])) := upd_same
                generalize upd H2' u (.tup (xs' ++ [.ref t1])) = H3' at s3 k3
                have s13 := (s1.trans s2).trans s3
                have rall : RpAll K H3' (xs' ++ [.ref t1]) ((g ++ [Nd.row rb 1 3]).map Nd.d) := by
                  rw [List.map_append]
                  exact (RpAll.same s13 rx).append (.cons (.tup (s3 _ _ (s2 _ _ k1)) (.cons (.str _) (.cons (.str _) (.cons (.int _) (.cons (.int _) .nil))))) .nil)
                have lg3 : (g ++ [Nd.row rb 1 3]).length ≤ 3 := by
                  rw [List.length_append]
                  have := gok.len
                  simp only [List.length_cons, List.length_nil]
                  omega
                refine once_go (.inr k3) rall (fit_nds (by omega)) fun p H4' vs' es s4 np hp rp' on => ?_
                obtain ⟨g3, rfl, gok3⟩ := once_gok (rows := rs) (names := ns) (n := 3) lg3 (by simp) (fun w' hw => by
                  rcases List.mem_append.mp hw with z | z
                  · exact gok.ok w' z
                  · rw [List.mem_singleton.mp z]
                    exact ⟨rin.2, by decide, by decide⟩) on
                have s14 := s13.trans s4
                have hD4 := s14 _ _ hD
                have TP : Tups H4' (upd H4' D (.lst (vs2 ++ [.ref p]))) := Tups.put hD4
                have lv2 : vs2.length = i' := by rw [r2.len, List.length_map, l2]
                refine ⟨vs2, hD4, by rw [lv2, sizeLine_eq]; omega, ext_put (eF.trans' (ext_same s14)) nD, (BF.same s14).put nDb nDc, vs2 ++ [.ref p], gs2 ++ [g3], upd_same, ?_, by rw [List.length_append, l2]; rfl, fun g' hg' => ?_⟩
                · rw [List.map_append]
                  exact (r2.tups ((Tups.same s14).trans TP) (gds_flat gs2)).append (.cons (.tup (TP _ _ hp) (RpAll.tups TP rp' (nds_flat g3))) .nil)
                · rcases List.mem_append.mp hg' with z | z
                  · exact ok2 g' z
                  · rw [List.mem_singleton.mp z]
                    exact gok3
              · rintro HF ⟨eF, BF, vs2, gs2, hD, r2, l2, ok2⟩
                exact ⟨D, rfl, (eD.trans' eE).trans' eF, BF, nDb, vs2, gs2, hD, r2, by omega, ok2⟩
            · rintro HE ⟨eE, BE⟩
              exact ⟨G, rfl, eD.trans' eE, BE, nGb, gvs, gs, eE G _ nGb hG, rg.tups (BD.tups eE) (gds_flat gs), lg, fun g hg => ⟨(okg g hg).ne, Nat.le_succ_of_le (okg g hg).len, (okg g hg).ok, (okg g hg).nd, (okg g hg).asc⟩⟩
          · rintro σ' HE ⟨G', rfl, eE, BE, nGb', gvs, gs, hG, rg, lg, okg⟩
            have hLE := eE L _ nLb hL
            have lk : ks.length ≤ 15 := by
              have e := congrArg List.length nm
              rw [List.length_map, List.length_take] at e
              omega
            have lv : vs.length ≤ 15 := by rw [rp.len, List.length_map]; exact lk
            refine ⟨_, rfl, .inl ⟨rfl, _, SqL.of hLE⟩, _, rfl, _, rfl, b, c, 3, rfl, by decide, by decide, BE, fun r HA r0 r3 eA BA => ⟨6, r, rfl, rfl, ?_⟩⟩
            refine some_const (G := IntIn 0 12) (i := 0) (vs := ([0, 0, 1, 2, 3, 8] : List Int).map V.int) rfl BA (fun Q' q => q) (by simp) (by simp) (ints_in (by decide)) fun v HB hv eB BB => ?_
            obtain ⟨w', rfl, w0, w12⟩ := hv
            have eEB := eA.trans' eB
            refine ⟨_, rfl, once_go (.inl (eEB G' _ nGb' hG)) (rg.tups (BE.tups eEB) (gds_flat gs)) (fit_gds (fun g hg => (okg g hg).ne) (by omega)) fun q HC' vs' es sC nq hq rpq on => ?_⟩
            obtain ⟨gs2, rfl, ok2, len2, nd2, asc2⟩ := once_gs (n := 4) lg okg on
            refine ⟨by show 4 ≤ sizeLine; decide, fun t nt => ?_⟩
            have sD : Same HC' (upd HC' t (.tup [.str y, .int (6 + r), .int w', .ref q])) := same_new (Same.refl HC') nt
            have hD : upd HC' t (.tup [.str y, .int (6 + r), .int w', .ref q]) t = some (.tup [.str y, .int (6 + r), .int w', .ref q]) := upd_same
            generalize upd HC' t (.tup [.str y, .int (6 + r), .int w', .ref q]) = HF at sD hD
            have eEF : Ext b HE HF := eEB.trans' (ext_same (sC.trans sD))
            have eiF : Ext b Hi HF := eE.trans' eEF
            have hLF := eEF L _ nLb hLE
            have TP : Tups HF (upd HF L (.lst (vs ++ [.ref t]))) := Tups.put hLF
            refine ⟨L, vs, .ref t, rfl, rfl, hLF, by rw [sizeLine_eq]; omega, ⟨_, _, _, _, _, _, rfl⟩, ext_put (Ei.trans' eiF) nL0, (BB.same (sC.trans sD)).put nLb nLc, (tx eiF).trans TP, (dx eiF).put hLF, vs ++ [.ref t], ks ++ [⟨y, 6 + r, w', gs2⟩], upd_same, ?_, ?_, fun k' hk' => ?_⟩
            · rw [List.map_append]
              refine (rp.tups ((Bi.tups eiF).trans TP) (kds_flat ks)).append (.cons (.tup (TP _ _ hD) (.cons (.str y) (.cons (.int _) (.cons (.int _) (.cons (.tup (TP _ _ (sD _ _ hq)) (RpAll.tups ((Tups.same sD).trans TP) rpq (gds_flat gs2))) .nil))))) .nil)
            · rw [List.map_append, nm, List.take_succ, hy]
              rfl
            · rcases List.mem_append.mp hk' with z | z
              · exact oks k' z
              · rw [List.mem_singleton.mp z]
                exact ⟨⟨by show 1 ≤ 6 + r; omega, by show 6 + r ≤ 8; omega⟩, ⟨w0, w12⟩, ok2, len2, nd2, asc2⟩
    · rintro σ' Hi ⟨⟨x6, x7, x8, x9, x10, x11, rfl⟩, Ei, Bi, Ti, di, vs, ks, hL, rp, nm, oks⟩
      rw [List.take_length] at nm
      refine ⟨_, rfl, _, rfl, .inl ⟨L, vs, rfl, SqL.of hL, fun t nt => ⟨by show 2 ≤ sizeLine; decide, fun u nu => ?_⟩⟩⟩
      have s1 : Same Hi (upd Hi t (.tup vs)) := same_new (Same.refl Hi) nt
      have g1 : upd Hi t (.tup vs) t = some (.tup vs) := upd_same
      generalize upd Hi t (.tup vs) = Hj at s1 g1 nu
      have s2 : Same Hj (upd Hj u (.tup [.ref p2, .ref t])) := same_new (Same.refl Hj) nu
      have st := s1.trans s2
      refine k u _ ⟨rs, ks⟩ (Ei.trans' (ext_same st)) (Bi.same st) ((Ei.trans' (ext_same s1)).dom' (Bi.same s1) u nu) (.tup upd_same (.cons (.tup (st _ _ (Ti _ _ hr5)) (rp_of_strs rs)) (.cons (.tup (s2 _ _ g1) (RpAll.same st rp)) .nil))) ⟨okR, ?_, ?_⟩ ⟨?_, ?_⟩
      · show NamesOk (ks.map Kd.name)
        rw [nm]
        exact okN
      · show ∀ k ∈ ks, KOk rs (ks.map Kd.name) k
        rw [nm]
        exact oks
      · have e := congrArg List.length nm
        rw [List.length_map, N1.len] at e
        show ks.length ≤ n.toNat
        omega
      · show rs.length ≤ 2
        rw [N2.len]
        omega
end
end Gy

namespace Gy
open PySem L2 PySem.Spec PyProof.Rows
abbrev sPlanted : Stmt := top 35
def spPlanted (K : PySem.W.Frag) : Sp := fun vs H Q _ => ∃ (b c : Addr) (n : Int) (so : Str), vs = [.ref b, .str so, .int n] ∧ 1 ≤ n ∧ n ≤ 15 ∧ so ∈ (["ever", "longer", "gone", "none"] : List Str) ∧ BagC c H b ∧
  ∀ (p : Addr) (H' : Hp) (B : Bk), Ext b H H' → BagC c H' b → H p = none → Rp K H' (.ref p) B.d → BOk B → BSm B n.toNat 2 → Q (.ref p) H'
/-- list(x), x a list or a tuple -/
abbrev rListT (K : PySem.W.Frag) : List V → Hp → VK → Prop := fun xs H Q => ∃ p ys, xs = [.ref p] ∧ (SqL K H p ys ∨ SqT K H p ys) ∧ ∀ l, H l = none → Q (.ref l) (upd H l (.lst ys))
/-- one found kind: a list of its own -/
structure Row (N : Nat) (K : PySem.W.Frag) (H : Hp) (b L : Addr) (rows names : List Str) (q : Addr) (y : Str) : Prop where
  it : ∃ (keep bar : Int) (g : Addr) (gvs : List V) (gs : List (List Nd)), q ≠ b ∧ q ≠ L ∧ g ≠ b ∧ g ≠ L ∧ H q = some (.lst [.str y, .int keep, .int bar, .ref g]) ∧ H g = some (.lst gvs) ∧ RpAll K H gvs (gs.map gd) ∧ gs.length ≤ N ∧ (∀ x ∈ gs, GOk rows names 3 x) ∧ (1 ≤ keep ∧ keep ≤ 8) ∧ 0 ≤ bar ∧ bar ≤ 12
theorem Row.ext {N : Nat} {K : PySem.W.Frag} {H H' : Hp} {b c L q : Addr} {rows names : List Str} {y : Str} (r : Row N K H b L rows names q y) (B : BagC c H b) (e : Ext b H H') : Row N K H' b L rows names q y := by
  obtain ⟨keep, bar, g, gvs, gs, qb, qL, gb, gL, hq, hg, rp, rest⟩ := r.it
  exact ⟨keep, bar, g, gvs, gs, qb, qL, gb, gL, e q _ qb hq, e g _ gb hg, rp.tups (B.tups e) (gds_flat gs), rest⟩
theorem Row.putL {N : Nat} {K : PySem.W.Frag} {H : Hp} {b L q : Addr} {l l' : List V} {rows names : List Str} {y : Str} (r : Row N K H b L rows names q y) (hL : H L = some (.lst l)) : Row N K (upd H L (.lst l')) b L rows names q y := by
  obtain ⟨keep, bar, g, gvs, gs, qb, qL, gb, gL, hq, hg, rp, rest⟩ := r.it
  exact ⟨keep, bar, g, gvs, gs, qb, qL, gb, gL, by rw [upd_ne qL]; exact hq, by rw [upd_ne gL]; exact hg, rp.tups (Tups.put hL) (gds_flat gs), rest⟩
theorem Row.up {N M : Nat} {K : PySem.W.Frag} {H : Hp} {b L q : Addr} {rows names : List Str} {y : Str} (r : Row N K H b L rows names q y) (h : N ≤ M) : Row M K H b L rows names q y := by
  obtain ⟨keep, bar, g, gvs, gs, qb, qL, gb, gL, hq, hg, rp, len, rest⟩ := r.it
  exact ⟨keep, bar, g, gvs, gs, qb, qL, gb, gL, hq, hg, rp, Nat.le_trans len h, rest⟩
/-- a row's grounds are set anew -/
theorem Row.more {N : Nat} {K : PySem.W.Frag} {H : Hp} {b L q q' u : Addr} {rows names : List Str} {y y' : Str} {keep bar : Int} {g : Addr} {vs : List V} {us : List (List Nd)} (r : Row N K H b L rows names q' y') (hq : H q = some (.lst [.str y, .int keep, .int bar, .ref g]))
    (hu : H u = some (.lst vs)) (ub : u ≠ b) (uL : u ≠ L) (uq : u ≠ q) (ru : RpAll K H vs (us.map gd)) (lu : us.length ≤ N) (ok : ∀ x ∈ us, GOk rows names 3 x) : Row N K (upd H q (.lst [.str y, .int keep, .int bar, .ref u])) b L rows names q' y' := by
  obtain ⟨keep', bar', g', gvs, gs, qb, qL, gb, gL, hq', hg, rp, len, okg, k, w⟩ := r.it
  have T : Tups H (upd H q (.lst [.str y, .int keep, .int bar, .ref u])) := Tups.put hq
  by_cases e : q' = q
  · subst e
    rw [hq] at hq'
    cases hq'
    exact ⟨_, _, u, vs, us, qb, qL, ub, uL, upd_same, by rw [upd_ne uq]; exact hu, ru.tups T (gds_flat us), lu, ok, k, w⟩
  · have gq : g' ≠ q := fun z => by
      rw [z, hq] at hg
      cases hg
      cases gs with
      | nil => cases rp
      | cons a r =>
        cases rp with
        | cons r1 _ => cases r1
    exact ⟨keep', bar', g', gvs, gs, qb, qL, gb, gL, by rw [upd_ne e]; exact hq', by rw [upd_ne gq]; exact hg, rp.tups T (gds_flat gs), len, okg, k, w⟩
theorem paired_mem {α β : Type} {R : α → β → Prop} : ∀ {as : List α} {bs : List β}, Paired R as bs → ∀ a ∈ as, ∃ y, y ∈ bs ∧ R a y
  | _, _, .nil, a, m => absurd m List.not_mem_nil
  | _, _, .cons r p, a, m => by
    rcases List.mem_cons.mp m with rfl | m
    · exact ⟨_, List.mem_cons_self, r⟩
    · obtain ⟨y, hy, ry⟩ := paired_mem p a m
      exact ⟨y, List.mem_cons_of_mem _ hy, ry⟩
theorem paired_at {α β : Type} {R : α → β → Prop} : ∀ {as : List α} {bs : List β} {i : Nat} {a : α}, Paired R as bs → as[i]? = some a → ∃ y, bs[i]? = some y ∧ R a y
  | _, _, _, _, .nil, h => by simp at h
  | _, _, 0, _, .cons r _, h => by
    simp only [List.getElem?_cons_zero, Option.some.injEq] at h
    subst h
    exact ⟨_, rfl, r⟩
  | _, _, i + 1, _, .cons _ p, h => paired_at (i := i) p (by simpa using h)
theorem ife_any {c : TT} {ta tb : TE} {σ : L2.St} {H : Hp} {Q : VK} {R : Prop} {P : V → Prop} (hc : ∀ Q' : Bool → Hp → Prop, (∀ k, (k = true → R) → Q' k H) → c σ H Q') (ha : R → ∀ Q' : VK, (∀ v, P v → Q' v H) → ta σ H Q') (hb : ∀ Q' : VK, (∀ v, P v → Q' v H) → tb σ H Q') (k : ∀ v, P v → Q v H) : tIf c ta tb σ H Q :=
  hc _ fun d h => by
    cases d with
    | true => exact ha (h rfl) _ k
    | false => exact hb _ k
section
variable {P : Program} {w : World} {K : PySem.W.Frag} {mg : Str → Option Value} {base : Heap}
theorem scPlanted : FnScope ["_law_bag_here", "_law_sort", "_law_kinds", "_law_names", "_law_rows", "_law_found", "_law_ring", "_law_k", "_law_after", "_law_tells", "_law_tell", "_law_giver", "_law_grounds", "_law_ground_here", "_law_kind", "_law_kept", "_law_name", "_law_keep", "_law_bar"] ["_law_bag_here", "_law_sort", "_law_kinds"] (defScope sPlanted) := ⟨rfl, rfl, rfl, by decide +kernel, rfl, by decide +kernel, by decide +kernel⟩
theorem ok_planted {f fT fS fN fO fG : Addr} {fd fdT fdS fdN fdO fdG : FuncData} (F : Fun K "_law_planted" "_law_planted" sPlanted f fd) (T : TxtG K mg fT fS fdS) (O : TxtO mg) (lsb : mg "list" = none) (GS : FnOk P w K mg base CX0 2 fS fdS ["_law_bag_here", "_law_things"] (spSome K))
    (GT : FnOk P w K mg base CX0 1 fT fdT ["_law_bag_here", "_law_upto"] spTake) (bT : L2.Binds K fdT ["_law_bag_here", "_law_upto"] [])
    (gN : mg "_law_named" = some (.ref fN)) (bN : L2.Binds K fdN ["_law_bag_here", "_law_many"] []) (kN : PySem.W.keepIn K (.ref fN) = true) (GN : FnOk P w K mg base CX0 3 fN fdN ["_law_bag_here", "_law_many"] spNamed)
    (gO : mg "_law_more_needs" = some (.ref fO)) (bO : L2.Binds K fdO ["_law_bag_here", "_law_sort", "_law_rows"] []) (kO : PySem.W.keepIn K (.ref fO) = true) (GO : FnOk P w K mg base CX0 3 fO fdO ["_law_bag_here", "_law_sort", "_law_rows"] (spMore K))
    (gG : mg "_law_ground" = some (.ref fG)) (bG : L2.Binds K fdG ["_law_bag_here", "_law_rows", "_law_names"] []) (kG : PySem.W.keepIn K (.ref fG) = true) (GG : FnOk P w K mg base CX0 5 fG fdG ["_law_bag_here", "_law_rows", "_law_names"] (spGround K)) :
    FnOk P w K mg base CX0 6 f fd ["_law_bag_here", "_law_sort", "_law_kinds"] (spPlanted K) := by
  refine F.ok scPlanted (fun vs H Q E h => ?_) (fun cdv A outer s H vs Q E hr h => ?_)
  · obtain ⟨b, c, n, so, rfl, _⟩ := h
    rfl
  · obtain ⟨b, c, n, so, rfl, n1, n15, hso, B, k⟩ := h
    have nd := scPlanted.nd
    have hr1 := hr.mono (by decide : 1 ≤ 5)
    have hr2 := hr.mono (by decide : 2 ≤ 5)
    have hr3 := hr.mono (by decide : 3 ≤ 5)
    have hu := hr.units
    have hu0 := hu_of hr
    refine ⟨_, (pss_cons (ps_asg (pe_tup (pa_cons (pe_call GN hr3 rfl gN kN bN .nil pass0 (pa_cons (pv 0) (pa_cons (pe_op op_add pe_int (pe_call GT hr1 rfl T.b.gT T.b.kT bT .nil pass0 (pa_cons (pv 0) (pa_cons (pv 2) pa_nil)))) pa_nil))) (pa_cons (pe_call GN hr3 rfl gN kN bN .nil pass0 (pa_cons (pv 0) (pa_cons pe_int pa_nil))) pa_nil))) (pg_tup rfl (pgs_cons (pg_name (i := 3) nd rfl (Or.inr rfl)) (pgs_cons (pg_name (i := 4) nd rfl (Or.inr rfl)) pgs_nil)))) (pss_cons (ps_par (i := 5) (j := 6) rfl nd rfl rfl (by decide) rfl rfl (pa_cons (pe_lst pa_nil) (pa_cons (pe_op op_add pe_int (pe_call GT hr1 rfl T.b.gT T.b.kT bT .nil pass0 (pa_cons (pv 0) (pa_cons (pe_callB call_len_seq (by rfl) T.b.a.len PySem.boot_len (pa_cons (pv 3) pa_nil)) pa_nil)))) pa_nil)) (by rfl)) (pss_cons (ps_for PassesOwn.never rfl (pi_range1 (by rfl) O.rng (pa_cons (pe_callB call_len_seq (by rfl) T.b.a.len PySem.boot_len (pa_cons (pv 3) pa_nil)) pa_nil)) (pg_name (i := 7) nd rfl (Or.inl rfl)) (pss_cons (ps_set (i := 8) nd rfl (Or.inl rfl) (pe_op op_add pe_int (pe_call GT hr1 rfl T.b.gT T.b.kT bT .nil pass0 (pa_cons (pv 0) (pa_cons pe_int pa_nil))))) (pss_cons (ps_set (i := 9) nd rfl (Or.inl rfl) (pe_disp (pps_cons pe_str (pe_op op_add (pv 8) (pe_call GT hr1 rfl T.b.gT T.b.kT bT .nil pass0 (pa_cons (pv 0) (pa_cons (pe_op op_sub pe_int (pv 8)) pa_nil)))) (pps_cons pe_str (pe_call GT hr1 rfl T.b.gT T.b.kT bT .nil pass0 (pa_cons (pv 0) (pa_cons (pv 8) pa_nil))) (pps_cons pe_str pe_int (pps_cons pe_str pe_int pps_nil)))) (by rfl) (by rfl) (fun z => by cases z) (by decide))) (pss_cons (ps_set (i := 10) nd rfl (Or.inl rfl) (pe_dget hu0 (pv 9) (pv 1) (fun _ _ => rfl))) (pss_cons (ps_set (i := 11) nd rfl (Or.inl rfl) (pe_ifExp (pt_cmpR op_gt (pv 7) pe_int (nomark _)) (pe_ix ix_tup (pv 3) (pe_op op_sub (pv 7) pe_int) (fun _ _ => rfl)) (pe_ix ix_tup (pv 3) (pe_op op_sub (pv 6) pe_int) (fun _ _ => rfl)))) (C8.pss_cut (ps_if (PW.pt (pw_and (pt_cmpR op_eq (pv 1) pe_str (nomark _)) (pw_and1 (pt_cmpR op_eq (pv 7) pe_int (nomark _))))) (pss_one (ps_par (i := 8) (j := 10) rfl nd rfl rfl (by decide) rfl rfl (pa_cons (pe_op op_add pe_int (pe_call GT hr1 rfl T.b.gT T.b.kT bT .nil pass0 (pa_cons (pv 0) (pa_cons pe_int pa_nil)))) (pa_cons pe_int pa_nil)) (by rfl))) pss_nil) (pss_cons (ps_set (i := 12) nd rfl (Or.inl rfl) (pe_lst (pa_cons (pe_tup (pa_cons (pe_tup (pa_cons pe_str (pa_cons (pv 11) (pa_cons (pv 8) (pa_cons (pv 10) (pa_cons pe_int pa_nil)))))) pa_nil)) pa_nil))) (C8.pss_cut (ps_if (PW.pt (pw_or (pt_cmpR op_eq (pv 7) pe_int (nomark _)) (pw_or1 (PW.pt (pw_and (pt_cmpR op_eq (pv 1) pe_str (nomark _)) (pw_and1 (pt_cmpR op_eq (pe_call GT hr1 rfl T.b.gT T.b.kT bT .nil pass0 (pa_cons (pv 0) (pa_cons pe_int pa_nil))) pe_int (nomark _)))))))) (pss_one (ps_expr (by exact (pe_bm PySem.F.plainAttrs_list PySem.F.slot_list_append PySem.F.type_list_append mt_append (pv 12) (pa_cons (pe_tup (pa_cons (pe_tup (pa_cons pe_str (pa_cons (pe_ifExp (pt_cmpR op_ne (pv 1) pe_str (nomark _)) (pe_ix ix_tup (pv 4) pe_int (fun _ _ => rfl)) (pe_ix ix_tup (pv 4) pe_int (fun _ _ => rfl))) (pa_cons (pe_call GT hr1 rfl T.b.gT T.b.kT bT .nil pass0 (pa_cons (pv 0) (pa_cons pe_int pa_nil))) (pa_cons pe_int pa_nil))))) pa_nil)) pa_nil))))) pss_nil) (pss_cons (ps_setLc (i := 12) (own := [("_law_ground_here", 13)]) (g := gName 13) (tt := tYes) (te := tOnce K w (tOp rCat (tCB (rListT K) (tCons (tVar 13) tNil)) (tCall (spMore K) [] E0 (tCons (tVar 0) (tCons (tVar 1) (tCons (tVar 4) tNil)))))) rfl nd rfl rfl (sw_true rfl rfl rfl (by decide +kernel)) (pi_list (pv 12)) (blkOk_by (own := [("_law_ground_here", 13)]) (N := ["_law_bag_here", "_law_sort", "_law_kinds", "_law_names", "_law_rows", "_law_found", "_law_ring", "_law_k", "_law_after", "_law_tells", "_law_tell", "_law_giver", "_law_grounds", "_law_ground_here", "_law_kind", "_law_kept", "_law_name", "_law_keep", "_law_bar"]) (sc := defScope sPlanted) (by decide +kernel)) (fun _ _ _ _ _ => (pg_name (i := 13) nd rfl (Or.inl rfl))) (fun _ _ _ _ _ => pts_nil) (fun _ _ _ _ _ => (pe_tupleOf (by rfl) O.tup (pe_callB (Ns.cr_sortedN rfl hu) (by rfl) O.srt (by decide +kernel) (pa_cons (pe_callTy (Ns.cr_setN rfl hu) (by rfl) O.set (by decide +kernel) (pa_cons (pe_op op_cat (pe_callTy call_list_of (by rfl) lsb (by decide +kernel) (pa_cons (pv 13) pa_nil)) (pe_call GO hr3 rfl gO kO bO .nil pass0 (pa_cons (pv 0) (pa_cons (pv 1) (pa_cons (pv 4) pa_nil))))) pa_nil)) pa_nil))))) (pss_one (ps_expr (by exact (pe_bm PySem.F.plainAttrs_list PySem.F.slot_list_append PySem.F.type_list_append mt_append (pv 5) (pa_cons (pe_lst (pa_cons (pe_ix ix_tup (pv 3) (pv 7) (fun _ _ => rfl)) (pa_cons (pe_op op_sub pe_int (pe_call GT hr1 rfl T.b.gT T.b.kT bT .nil pass0 (pa_cons (pv 0) (pa_cons pe_int pa_nil)))) (pa_cons (pe_call GS hr2 rfl T.gS T.kS T.bS .nil pass0 (pa_cons (pv 0) (pa_cons (pe_lst (pa_cons pe_int (pa_cons pe_int (pa_cons pe_int (pa_cons pe_int pa_nil))))) pa_nil))) (pa_cons (pv 12) pa_nil))))) pa_nil)))))))))))))) (pss_cons (ps_for PassesOwn.never rfl (pi_list (pe_op op_rep (pv 5) (pe_callTy call_int1 (by rfl) T.b.a.int (by decide +kernel) (pa_cons (pe_cmpR op_eq (pv 1) pe_str (nomark _)) pa_nil)))) (pg_name (i := 14) nd rfl (Or.inl rfl)) (pss_one (ps_asg (pe_op op_cat (pe_ix ix_list (pv 14) pe_int (fun _ _ => rfl)) (pe_lc (own := [("_law_k", 7)]) (g := gName 7) (tt := tYes) (te := tCall (spGround K) [] E0 (tCons (tVar 0) (tCons (tVar 4) (tCons (tVar 3) tNil)))) rfl nd (pi_range1 (by rfl) O.rng (pa_cons (pe_call GT hr1 rfl T.b.gT T.b.kT bT .nil pass0 (pa_cons (pv 0) (pa_cons pe_int pa_nil))) pa_nil)) (blkOk_by (own := [("_law_k", 7)]) (N := ["_law_bag_here", "_law_sort", "_law_kinds", "_law_names", "_law_rows", "_law_found", "_law_ring", "_law_k", "_law_after", "_law_tells", "_law_tell", "_law_giver", "_law_grounds", "_law_ground_here", "_law_kind", "_law_kept", "_law_name", "_law_keep", "_law_bar"]) (sc := defScope sPlanted) (by decide +kernel)) (fun _ _ _ _ _ => (pg_name (i := 7) nd rfl (Or.inl rfl))) (fun _ _ _ _ _ => pts_nil) (fun _ _ _ _ _ => (pe_call GG hr rfl gG kG bG .nil pass0 (pa_cons (pv 0) (pa_cons (pv 4) (pa_cons (pv 3) pa_nil))))))) (pg_sub (pv 14) pe_int set_list)))) (pss_cons (ps_setLc (i := 15) (own := [("_law_name", 16), ("_law_keep", 17), ("_law_bar", 18), ("_law_grounds", 12)]) (g := gUnl K 4 (gCons (gName 16) (gCons (gName 17) (gCons (gName 18) (gCons (gName 12) gNil))))) (tt := tYes) (te := tTup (tCons (tVar 16) (tCons (tVar 17) (tCons (tVar 18) (tCons (tOnce K w (tSl (rSlL K) (tVar 12) tNoPart (tPart (tC (.int 4))))) tNil))))) rfl nd rfl rfl (sw_true rfl rfl rfl (by decide +kernel)) (pi_list (pv 5)) (blkOk_by (own := [("_law_name", 16), ("_law_keep", 17), ("_law_bar", 18), ("_law_grounds", 12)]) (N := ["_law_bag_here", "_law_sort", "_law_kinds", "_law_names", "_law_rows", "_law_found", "_law_ring", "_law_k", "_law_after", "_law_tells", "_law_tell", "_law_giver", "_law_grounds", "_law_ground_here", "_law_kind", "_law_kept", "_law_name", "_law_keep", "_law_bar"]) (sc := defScope sPlanted) (by decide +kernel)) (fun _ _ _ _ _ => pg_unl rfl (pgs_cons (pg_name (i := 16) nd rfl (Or.inl rfl)) (pgs_cons (pg_name (i := 17) nd rfl (Or.inl rfl)) (pgs_cons (pg_name (i := 18) nd rfl (Or.inl rfl)) (pgs_cons (pg_name (i := 12) nd rfl (Or.inl rfl)) pgs_nil))))) (fun _ _ _ _ _ => pts_nil) (fun _ _ _ _ _ => (pe_tup (pa_cons (pv 16) (pa_cons (pv 17) (pa_cons (pv 18) (pa_cons (pe_tupleOf (by rfl) O.tup (pe_callB (Ns.cr_sortedN rfl hu) (by rfl) O.srt (by decide +kernel) (pa_cons (pe_callTy (Ns.cr_setN rfl hu) (by rfl) O.set (by decide +kernel) (pa_cons (pe_slice sl_list (pv 12) po_none (po_some pe_int)) pa_nil)) pa_nil))) pa_nil))))))) (pss_one (ps_ret (pe_tup (pa_cons (pv 4) (pa_cons (pe_tupleOf (by rfl) O.tup (pv 15)) pa_nil)))))))))), ?_⟩
    refine ⟨_, rfl, _, rfl, _, rfl, b, c, n, rfl, by omega, by omega, B, fun r1 H1 r10 r11 e1 B1 => ⟨1, r1, rfl, rfl, b, c, (1 + r1).toNat, (by rw [Int.toNat_of_nonneg (by omega : 0 ≤ 1 + r1)]; rfl), B1, fun p1 H2 ns e2 B2 np1 hp1 N1 => ?_⟩⟩
    refine ⟨_, rfl, b, c, 2, rfl, B2, fun p2 H4 rs e4 B4 np2 hp2 N2 => ?_⟩
    refine ⟨by show 2 ≤ sizeLine; decide, fun q nq => ?_⟩
    have s5 : Same H4 (upd H4 q (.tup [.ref p1, .ref p2])) := same_new (Same.refl H4) nq
    have h5 : upd H4 q (.tup [.ref p1, .ref p2]) q = some (.tup [.ref p1, .ref p2]) := upd_same
    generalize upd H4 q (.tup [.ref p1, .ref p2]) = H5 at s5 h5
    refine ⟨q, _, rfl, SqT.of h5, rfl, _, _, rfl, _, _, rfl, rfl, ?_⟩
    have E5 : Ext b H H5 := ((e1.trans' e2).trans' e4).trans' (ext_same s5)
    have B5 := B4.same s5
    have hn5 : H5 p1 = some (.tup (ns.map V.str)) := ((B2.tups e4).trans (.same s5)) _ _ hp1
    have hr5 : H5 p2 = some (.tup (rs.map V.str)) := s5 _ _ hp2
    have okN := N1.ok (by omega)
    have okR := N2.ok (by decide)
    have nl := okN.len
    have np : 0 < ns.length := List.length_pos_iff.mpr okN.ne
    obtain ⟨ra, rb, ers⟩ : ∃ ra rb, rs = [ra, rb] := by
      have l2 := N2.len
      match rs, l2 with
      | [x, y], _ => exact ⟨x, y, rfl⟩
    have st5 : Stock H5 p2 p1 rs ns := ⟨hr5, hn5, okR.ne, okN.ne, by have := okR.len; omega, by have := okN.len; omega⟩
    try dsimp only
    show tSeq _ _ _ [some (.ref b), some (.str so), some (.int n), some (.ref p1), some (.ref p2), none, none, none, none, none, none, none, none, none, none, none, none, none, none] H5
    refine ⟨Nat.zero_le _, fun L nL => ?_⟩
    have nLb : L ≠ b := ne_at nL B5.hbs
    have nLc : L ≠ c := ne_at nL B5.hcs
    have nL0 : H L = none := E5.dom' B5 L nL
    have T6 : Tups H5 (upd H5 L (.lst [])) := fun a xs h => by rw [upd_ne (ne_of_none h nL)]; exact h
    have E6 : Ext b H (upd H5 L (.lst [])) := ext_put E5 nL0
    have B6 : BagC c (upd H5 L (.lst [])) b := B5.put nLb nLc
    have h6 : upd H5 L (.lst []) L = some (.lst []) := upd_same
    generalize upd H5 L (.lst []) = H6 at T6 E6 B6 h6
    have ez : (((ns.map V.str).length : Nat) : Int).toNat = ns.length := by rw [List.length_map]; rfl
    refine ⟨_, rfl, _, rfl, p1, ns.map V.str, rfl, .inr (SqT.of (T6 _ _ hn5)), b, c, (ns.length : Int), (by rw [List.length_map]; rfl), by omega, by omega, B6, fun r2 H7 r20 r21 e7 B7 => ⟨1, r2, rfl, rfl, _, _, rfl, ?_⟩⟩
    have T7 := T6.trans (B6.tups e7)
    have E7 := E6.trans' e7
    have h7 : H7 L = some (.lst []) := e7 L _ nLb h6
    try dsimp only
    show tSeq _ _ _ [some (.ref b), some (.str so), some (.int n), some (.ref p1), some (.ref p2), some (.ref L), some (.int (1 + r2)), none, none, none, none, none, none, none, none, none, none, none, none] H7
    refine ⟨_, rfl, p1, ns.map V.str, rfl, .inr (SqT.of (T7 _ _ hn5)), _, rfl, by rw [List.length_map]; omega, by rw [List.length_map]; omega, ?_⟩
    rw [ez]
    refine for_range (n := ns.length) (fun i σ' H' => (∃ x7 x8 x9 x10 x11 x12 x13, σ' = [some (.ref b), some (.str so), some (.int n), some (.ref p1), some (.ref p2), some (.ref L), some (.int (1 + r2)), x7, x8, x9, x10, x11, x12, x13, none, none, none, none, none]) ∧ Ext b H H' ∧ BagC c H' b ∧ Tups H5 H' ∧
        ∃ qs : List Addr, H' L = some (.lst (qs.map V.ref)) ∧ qs.Nodup ∧ (∀ q ∈ qs, q ≠ L ∧ q ≠ c ∧ H q = none) ∧ Paired (Row 5 K H' b L rs ns) qs (ns.take i))
      ⟨⟨_, _, _, _, _, _, _, rfl⟩, E7, B7, T7, [], h7, List.nodup_nil, fun q m => absurd m List.not_mem_nil, .nil⟩ ?_ ?_
    · rintro i σ' Hi il ⟨⟨x7, x8, x9, x10, x11, x12, x13, rfl⟩, Ei, Bi, Ti, qs, hL, nq, nqL, prs⟩
      obtain ⟨y, hy⟩ : ∃ y, ns[i]? = some y := ⟨_, List.getElem?_eq_getElem il⟩
      have yin : y ∈ ns := List.mem_of_getElem? hy
      try dsimp only
      show tSeq _ _ _ [some (.ref b), some (.str so), some (.int n), some (.ref p1), some (.ref p2), some (.ref L), some (.int (1 + r2)), some (.int (0 + (i : Int))), x8, x9, x10, x11, x12, x13, none, none, none, none, none] Hi
      refine ⟨_, rfl, b, c, 3, rfl, by decide, by decide, Bi, fun z1 HA z10 z13 eA BA => ⟨1, z1, rfl, rfl, ?_⟩⟩
      try dsimp only
      show tSeq _ _ _ [some (.ref b), some (.str so), some (.int n), some (.ref p1), some (.ref p2), some (.ref L), some (.int (1 + r2)), some (.int (0 + (i : Int))), some (.int (1 + z1)), x9, x10, x11, x12, x13, none, none, none, none, none] HA
      refine fun pd npd => ?_
      have npb : pd ≠ b := ne_at npd BA.hbs
      have npc : pd ≠ c := ne_at npd BA.hcs
      have EA := Ei.trans' eA
      have npd0 : Hi pd = none := eA.dom' BA pd npd
      have eB : Ext b Hi (upd HA pd (.dK [])) := ext_new eA npd
      have BB : BagC c (upd HA pd (.dK [])) b := BA.put npb npc
      have hB : upd HA pd (.dK []) pd = some (.dK []) := upd_same
      generalize upd HA pd (.dK []) = HB at eB BB hB
      refine ⟨_, rfl, _, rfl, _, rfl, 5, 1 + z1, rfl, rfl, b, c, 5 - (1 + z1), rfl, by omega, by omega, BB, fun z2 HC z20 z24 eC BC => ⟨1 + z1, z2, rfl, rfl, ?_⟩⟩
      refine ⟨_, rfl, _, rfl, b, c, 1 + z1, rfl, by omega, by omega, BC, fun z3 HD z30 z34 eD BD => ?_⟩
      refine ⟨eD pd _ npb (eC pd _ npb hB), [(.inr "ever", .int (1 + z1 + z2)), (.inr "longer", .int z3), (.inr "gone", .int 0), (.inr "none", .int 2)], rfl, by show 4 ≤ 15; decide, ?_⟩
      have hkv : ∀ kv ∈ ([(.inr "ever", .int (1 + z1 + z2)), (.inr "longer", .int z3), (.inr "gone", .int 0), (.inr "none", .int 2)] : List (Key × V)), IntIn 0 4 kv.2 := fun kv m => by
        simp only [List.mem_cons, List.mem_nil_iff, or_false] at m
        rcases m with rfl | rfl | rfl | rfl
        · exact ⟨_, rfl, by omega, by omega⟩
        · exact ⟨_, rfl, by omega, by omega⟩
        · exact ⟨_, rfl, by omega, by omega⟩
        · exact ⟨_, rfl, by omega, by omega⟩
      have hks : ([(.inr "ever", .int (1 + z1 + z2)), (.inr "longer", .int z3), (.inr "gone", .int 0), (.inr "none", .int 2)] : List (Key × V)).map (·.1) = (["ever", "longer", "gone", "none"] : List Str).map Sum.inr := rfl
      generalize ([(.inr "ever", .int (1 + z1 + z2)), (.inr "longer", .int z3), (.inr "gone", .int 0), (.inr "none", .int 2)] : List (Key × V)) = kvs at hkv hks
      have hDd : HD pd = some (.dK []) := eD pd _ npb (eC pd _ npb hB)
      have eBD := (eB.trans' eC).trans' eD
      have eE : Ext b Hi (upd HD pd (.dK (mergeK [] kvs))) := ext_put eBD npd0
      have BE : BagC c (upd HD pd (.dK (mergeK [] kvs))) b := BD.put npb npc
      have hE : upd HD pd (.dK (mergeK [] kvs)) pd = some (.dK (mergeK [] kvs)) := upd_same
      generalize upd HD pd (.dK (mergeK [] kvs)) = HE at eE BE hE
      have dct : Dct HE pd (["ever", "longer", "gone", "none"] : List Str) 0 4 := ⟨_, hE, fun x hx => by
        obtain ⟨v, e, z, rfl, q1, q3⟩ := merge_has (P := IntIn 0 4) kvs [] (fun kv m => absurd m List.not_mem_nil) hkv (Sum.inr x) (.inr (by rw [hks]; exact List.mem_map_of_mem hx))
        exact ⟨z, e, q1, q3⟩⟩
      obtain ⟨tl, gtl, tl0, tl4⟩ := dct.get hso
      have tx : ∀ {H'}, Ext b Hi H' → Tups H5 H' := fun e => Ti.trans (Bi.tups e)
      try dsimp only
      show tSeq _ _ _ [some (.ref b), some (.str so), some (.int n), some (.ref p1), some (.ref p2), some (.ref L), some (.int (1 + r2)), some (.int (0 + (i : Int))), some (.int (1 + z1)), some (.ref pd), x10, x11, x12, x13, none, none, none, none, none] HE
      refine ⟨_, rfl, _, rfl, pd, _, rfl, gtl, ?_⟩
      try dsimp only
      show tSeq _ _ _ [some (.ref b), some (.str so), some (.int n), some (.ref p1), some (.ref p2), some (.ref L), some (.int (1 + r2)), some (.int (0 + (i : Int))), some (.int (1 + z1)), some (.ref pd), some (.int tl), x11, x12, x13, none, none, none, none, none] HE
      show tIf _ _ _ _ _ _
      have atn : ∀ j : Nat, j < ns.length → ∃ gv, gv ∈ ns ∧ atI (ns.map V.str) (j : Int) = some (.str gv) := fun j hj => by
        obtain ⟨g, hg⟩ : ∃ g, ns[j]? = some g := ⟨_, List.getElem?_eq_getElem hj⟩
        exact ⟨g, List.mem_of_getElem? hg, atI_nat (by rw [List.getElem?_map, hg]; rfl)⟩
      have hn : HE p1 = some (.tup (ns.map V.str)) := tx eE _ _ hn5
      refine ife_any (R := 0 < i) (P := fun v => ∃ gv ∈ ns, v = .str gv) (fun Q' q => ⟨_, rfl, _, _, rfl, rfl, _, rfl, q _ fun z => by have := of_decide_eq_true z; omega⟩) (fun ip Q' q => ?_) (fun Q' q => ?_) ?_
      · obtain ⟨gv, gvin, at1⟩ := atn (i - 1) (by omega)
        exact ⟨_, rfl, _, rfl, _, 1, rfl, rfl, p1, _, _, .str gv, rfl, rfl, SqT.of hn, (by rw [show (0 + (i : Int)) - 1 = ((i - 1 : Nat) : Int) by omega]; exact at1), q _ ⟨gv, gvin, rfl⟩⟩
      · obtain ⟨gv, gvin, at1⟩ := atn r2.toNat (by omega)
        exact ⟨_, rfl, _, rfl, _, 1, rfl, rfl, p1, _, _, .str gv, rfl, rfl, SqT.of hn, (by rw [show 1 + r2 - 1 = ((r2.toNat : Nat) : Int) by omega]; exact at1), q _ ⟨gv, gvin, rfl⟩⟩
      rintro v ⟨gv, gvin, rfl⟩
      try dsimp only
      show C8.tCut _ _ _ [some (.ref b), some (.str so), some (.int n), some (.ref p1), some (.ref p2), some (.ref L), some (.int (1 + r2)), some (.int (0 + (i : Int))), some (.int (1 + z1)), some (.ref pd), some (.int tl), some (.str gv), x12, x13, none, none, none, none, none] HE
      refine ⟨fun σ' H' => ∃ af te : Int, σ' = [some (.ref b), some (.str so), some (.int n), some (.ref p1), some (.ref p2), some (.ref L), some (.int (1 + r2)), some (.int (0 + (i : Int))), some (.int af), some (.ref pd), some (.int te), some (.str gv), x12, x13, none, none, none, none, none] ∧ (1 ≤ af ∧ af ≤ 9) ∧ (0 ≤ te ∧ te ≤ 4) ∧ Ext b Hi H' ∧ BagC c H' b, ?_, ?_⟩
      · refine st_or (Pc := fun H' => H' = HE) (fun Q q => ⟨_, rfl, rfl, _, rfl, ite2 (fun _ => ⟨_, rfl, rfl, _, rfl, q _ _ rfl⟩) fun _ => q _ _ rfl⟩) ?_ ?_
        · rintro H' rfl
          exact ⟨_, rfl, b, c, 2, rfl, by decide, by decide, BE, fun z HF z0 z2 eF BF => ⟨2, z, rfl, rfl, _, _, rfl, _, _, rfl, ⟨by omega, by omega⟩, ⟨by omega, by omega⟩, eE.trans' eF, BF⟩⟩
        · rintro H' rfl
          exact ⟨_, _, rfl, ⟨by omega, by omega⟩, ⟨tl0, tl4⟩, eE, BE⟩
      rintro σ' HF ⟨af, te, rfl, ⟨af1, af9⟩, ⟨te0, te4⟩, eF, BF⟩
      try dsimp only
      show tSeq _ _ _ [some (.ref b), some (.str so), some (.int n), some (.ref p1), some (.ref p2), some (.ref L), some (.int (1 + r2)), some (.int (0 + (i : Int))), some (.int af), some (.ref pd), some (.int te), some (.str gv), x12, x13, none, none, none, none, none] HF
      refine ⟨_, rfl, _, rfl, _, rfl, by show 5 ≤ sizeLine; decide, fun t1 nt1 => ?_⟩
      have s1 : Same HF (upd HF t1 (.tup [.str "kind", .str gv, .int af, .int te, .int 9])) := same_new (Same.refl HF) nt1
      have k1 : upd HF t1 (.tup [.str "kind", .str gv, .int af, .int te, .int 9]) t1 = some (.tup [.str "kind", .str gv, .int af, .int te, .int 9]) := upd_same
      generalize upd HF t1 (.tup [.str "kind", .str gv, .int af, .int te, .int 9]) = HG at s1 k1
      refine ⟨by show 1 ≤ sizeLine; decide, fun t2 nt2 => ?_⟩
      have s2 : Same HG (upd HG t2 (.tup [.ref t1])) := same_new (Same.refl HG) nt2
      have k2 : upd HG t2 (.tup [.ref t1]) t2 = some (.tup [.ref t1]) := upd_same
      generalize upd HG t2 (.tup [.ref t1]) = HI at s2 k2
      have eI : Ext b Hi HI := eF.trans' (ext_same (s1.trans s2))
      have BI : BagC c HI b := BF.same (s1.trans s2)
      refine ⟨by show 1 ≤ sizeLine; decide, fun G nG => ?_⟩
      have nGb : G ≠ b := ne_at nG BI.hbs
      have nGc : G ≠ c := ne_at nG BI.hcs
      have nG0 : Hi G = none := eI.dom' BI G nG
      have sJ : Same HI (upd HI G (.lst [.ref t2])) := same_new (Same.refl HI) nG
      have hG : upd HI G (.lst [.ref t2]) G = some (.lst [.ref t2]) := upd_same
      generalize upd HI G (.lst [.ref t2]) = HJ at sJ hG
      have eJ : Ext b Hi HJ := eI.trans' (ext_same sJ)
      have BJ : BagC c HJ b := BI.same sJ
      have rJ : RpAll K HJ [.ref t2] (([[.knd gv af te 9]] : List (List Nd)).map gd) := .cons (.tup (sJ _ _ k2) (.cons (.tup (sJ _ _ (s2 _ _ k1)) (.cons (.str _) (.cons (.str _) (.cons (.int _) (.cons (.int _) (.cons (.int _) .nil)))))) .nil)) .nil
      have okJ : ∀ g ∈ ([[.knd gv af te 9]] : List (List Nd)), GOk rs ns 1 g := fun g hg => by
        rw [List.mem_singleton.mp hg]
        exact ⟨by simp, by show 1 ≤ 1; decide, fun w' hw => by rw [List.mem_singleton.mp hw]; exact ⟨gvin, ⟨by omega, by omega⟩, ⟨by omega, by omega⟩, by decide⟩, by simp, List.pairwise_singleton _ _⟩
      try dsimp only
      show C8.tCut _ _ _ [some (.ref b), some (.str so), some (.int n), some (.ref p1), some (.ref p2), some (.ref L), some (.int (1 + r2)), some (.int (0 + (i : Int))), some (.int af), some (.ref pd), some (.int te), some (.str gv), some (.ref G), x13, none, none, none, none, none] HJ
      have GL : G ≠ L := fun z => by
        have q := eI L _ nLb hL
        rw [← z, nG] at q
        cases q
      refine ⟨fun σ' H' => σ' = [some (.ref b), some (.str so), some (.int n), some (.ref p1), some (.ref p2), some (.ref L), some (.int (1 + r2)), some (.int (0 + (i : Int))), some (.int af), some (.ref pd), some (.int te), some (.str gv), some (.ref G), x13, none, none, none, none, none] ∧ Ext b Hi H' ∧ BagC c H' b ∧
          ∃ (gvs : List V) (gs : List (List Nd)), H' G = some (.lst gvs) ∧ RpAll K H' gvs (gs.map gd) ∧ gs.length ≤ 2 ∧ ∀ g ∈ gs, GOk rs ns 1 g, ?_, ?_⟩
      · refine st_or (Pc := fun H' => Ext b HJ H' ∧ BagC c H' b) (fun Q q => ⟨_, rfl, rfl, _, rfl, ite2 (fun _ => q _ _ ⟨Ext.refl' b HJ, BJ⟩) fun _ => ⟨_, rfl, rfl, _, rfl, ite2 (fun _ => ⟨_, rfl, b, c, 3, rfl, by decide, by decide, BJ, fun z HD z0 z4 eD BD => ⟨rfl, _, rfl, q _ _ ⟨eD, BD⟩⟩⟩) fun _ => q _ _ ⟨Ext.refl' b HJ, BJ⟩⟩⟩) ?_ ?_
        · rintro HD ⟨eD, BD⟩
          have hGD := eD G _ nGb hG
          have hrD := tx (eJ.trans' eD) _ _ hr5
          have ixr : ∀ (j : Nat) (z : Str), rs[j]? = some z → atI (rs.map V.str) ((j : Nat) : Int) = some (.str z) := fun j z e => atI_nat (by rw [List.getElem?_map, e]; rfl)
          have rin : ra ∈ rs ∧ rb ∈ rs := by rw [ers]; simp
          refine ⟨_, rfl, .inl ⟨rfl, _, SqL.of hGD⟩, ?_⟩
          show tIf _ _ _ _ _ _
          refine ife_any (R := True) (P := fun v => ∃ rr ∈ rs, v = .str rr) (fun Q' q => ⟨_, rfl, rfl, _, rfl, q _ fun _ => trivial⟩) (fun _ Q' q => ⟨_, rfl, p2, _, 0, .str ra, rfl, rfl, SqT.of hrD, ixr 0 ra (by rw [ers]; rfl), q _ ⟨ra, rin.1, rfl⟩⟩) (fun Q' q => ⟨_, rfl, p2, _, 1, .str rb, rfl, rfl, SqT.of hrD, ixr 1 rb (by rw [ers]; rfl), q _ ⟨rb, rin.2, rfl⟩⟩) ?_
          rintro v ⟨rr, rrin, rfl⟩
          refine ⟨_, rfl, b, c, 5, rfl, by decide, by decide, BD, fun t HE' t0 t5 eE' BE' => ⟨by show 4 ≤ sizeLine; decide, fun t1' nt1' => ?_⟩⟩
          have s1 : Same HE' (upd HE' t1' (.tup [.str "row", .str rr, .int t, .int 9])) := same_new (Same.refl HE') nt1'
          have k1 : upd HE' t1' (.tup [.str "row", .str rr, .int t, .int 9]) t1' = some (.tup [.str "row", .str rr, .int t, .int 9]) := upd_same
          generalize upd HE' t1' (.tup [.str "row", .str rr, .int t, .int 9]) = HF' at s1 k1
          refine ⟨by show 1 ≤ sizeLine; decide, fun t2' nt2' => ?_⟩
          have s2 : Same HF' (upd HF' t2' (.tup [.ref t1'])) := same_new (Same.refl HF') nt2'
          have k2 : upd HF' t2' (.tup [.ref t1']) t2' = some (.tup [.ref t1']) := upd_same
          generalize upd HF' t2' (.tup [.ref t1']) = HG' at s2 k2
          have eJG : Ext b HJ HG' := (eD.trans' eE').trans' (ext_same (s1.trans s2))
          have hGG := eJG G _ nGb hG
          have TP : Tups HG' (upd HG' G (.lst ([.ref t2] ++ [.ref t2']))) := Tups.put hGG
          refine ⟨G, [.ref t2], .ref t2', rfl, rfl, hGG, by show 1 < sizeLine; decide, rfl, ext_put (eJ.trans' eJG) nG0, (BE'.same (s1.trans s2)).put nGb nGc, [.ref t2] ++ [.ref t2'], [[.knd gv af te 9]] ++ [[.row rr t 9]], upd_same, ?_, by show 2 ≤ 2; decide, fun g' hg' => ?_⟩
          · rw [List.map_append]
            exact (rJ.tups ((BJ.tups eJG).trans TP) (gds_flat _)).append (.cons (.tup (TP _ _ k2) (.cons (.tup (TP _ _ (s2 _ _ k1)) (.cons (.str _) (.cons (.str _) (.cons (.int _) (.cons (.int _) .nil))))) .nil)) .nil)
          · rcases List.mem_append.mp hg' with z | z
            · exact okJ g' z
            · rw [List.mem_singleton.mp z]
              exact ⟨by simp, by show 1 ≤ 1; decide, fun w' hw => by rw [List.mem_singleton.mp hw]; exact ⟨rrin, ⟨t0, by omega⟩, by decide⟩, by simp, List.pairwise_singleton _ _⟩
        · rintro HD ⟨eD, BD⟩
          exact ⟨rfl, eJ.trans' eD, BD, _, _, eD G _ nGb hG, rJ.tups (BJ.tups eD) (gds_flat _), by show 1 ≤ 2; decide, okJ⟩
      rintro σ' HK ⟨rfl, eK, BK, gvs, gs, hGK, rg, lg, okg⟩
      try dsimp only
      show tSeq _ _ _ [some (.ref b), some (.str so), some (.int n), some (.ref p1), some (.ref p2), some (.ref L), some (.int (1 + r2)), some (.int (0 + (i : Int))), some (.int af), some (.ref pd), some (.int te), some (.str gv), some (.ref G), x13, none, none, none, none, none] HK
      refine ⟨_, rfl, G, rfl, ⟨_, SqL.of hGK⟩, fun D nD => ?_⟩
      have nDb : D ≠ b := ne_at nD BK.hbs
      have nDc : D ≠ c := ne_at nD BK.hcs
      have nD0 : Hi D = none := eK.dom' BK D nD
      have okR2 := N2.len
      refine lc_list (xs := gvs) (fun i' H' => Ext b HK H' ∧ BagC c H' b ∧ ∃ (vs2 : List V) (gs2 : List (List Nd)), H' D = some (.lst vs2) ∧ RpAll K H' vs2 (gs2.map gd) ∧ gs2.length = i' ∧ ∀ g ∈ gs2, GOk rs ns 3 g)
        ⟨ext_put (Ext.refl' b HK) nD, BK.put nDb nDc, [], [], upd_same, .nil, rfl, fun x m => absurd m List.not_mem_nil⟩ (fun i' H' _ z => SqL.of (z.1 G _ nGb hGK)) ?_ ?_
      · rintro i' x HF hi ⟨eF, BF, vs2, gs2, hD, r2', l2, ok2⟩
        obtain ⟨d, hd, rd⟩ := RpAll.at (rg.tups (BK.tups eF) (gds_flat gs)) hi
        obtain ⟨g, hg, rfl⟩ := List.mem_map.mp (List.mem_of_getElem? hd)
        have il' : i' < 2 := by
          have q := (List.getElem?_eq_some_iff.mp hi).1
          have q2 := rg.len
          rw [List.length_map] at q2
          omega
        obtain ⟨ga, xs', rfl, hga, rx⟩ : ∃ ga xs', x = .ref ga ∧ HF ga = some (.tup xs') ∧ RpAll K HF xs' (g.map Nd.d) := by
          have r' : Rp K HF x (.tup (g.map Nd.d)) := rd
          cases r' with
          | tup h r => exact ⟨_, _, rfl, h, r⟩
        have gok := okg g hg
        have lx : xs'.length ≤ 1 := by rw [rx.len, List.length_map]; exact gok.len
        refine ⟨rfl, tyes_go ⟨_, rfl, ga, xs', rfl, .inr (SqT.of hga), fun l nl => ?_⟩⟩
        have nlb : l ≠ b := ne_at nl BF.hbs
        have s1 : Same HF (upd HF l (.lst xs')) := same_new (Same.refl HF) nl
        have k1 : upd HF l (.lst xs') l = some (.lst xs') := upd_same
        generalize upd HF l (.lst xs') = HF1 at s1 k1
        have BF1 := BF.same s1
        refine ⟨_, rfl, _, rfl, _, rfl, b, c, p2, .str so, rs, rfl, BF1, tx (eK.trans' (eF.trans' (ext_same s1))) _ _ hr5, okR2, fun p H2' ys g2 e2 B2' np hp rp lg' okm => ?_⟩
        have ly : ys.length ≤ 1 := by rw [rp.len, List.length_map]; exact lg'
        refine ⟨l, p, xs', ys, rfl, rfl, e2 l _ nlb k1, hp, by rw [sizeLine_eq]; omega, fun u nu => ?_⟩
        have s3 : Same H2' (upd H2' u (.lst (xs' ++ ys))) := same_new (Same.refl H2') nu
        have k3 : upd H2' u (.lst (xs' ++ ys)) u = some (.lst (xs' ++ ys)) := upd_same
        generalize upd H2' u (.lst (xs' ++ ys)) = H3' at s3 k3
        have eF3 : Ext b HF H3' := ((ext_same s1).trans' e2).trans' (ext_same s3)
        have B3' := B2'.same s3
        have rall : RpAll K H3' (xs' ++ ys) ((g ++ g2).map Nd.d) := by
          rw [List.map_append]
          exact (rx.tups (BF.tups eF3) (nds_flat g)).append (RpAll.same s3 rp)
        have lg3 : (g ++ g2).length ≤ 3 := by
          rw [List.length_append]
          have := gok.len
          omega
        refine once_go (.inl k3) rall (fit_nds (by omega)) fun p' H4' vs' es s4 np' hp' rp' on => ?_
        obtain ⟨g3, rfl, gok3⟩ := once_gok (rows := rs) (names := ns) (n := 3) lg3 (by intro z; exact gok.ne (List.append_eq_nil_iff.mp z).1) (fun w' hw => by
          rcases List.mem_append.mp hw with z | z
          · exact gok.ok w' z
          · exact okm ns w' z) on
        have eF4 := eF3.trans' (ext_same s4)
        have hD4 := eF4 D _ nDb hD
        have TP : Tups H4' (upd H4' D (.lst (vs2 ++ [.ref p']))) := Tups.put hD4
        have lv2 : vs2.length = i' := by rw [r2'.len, List.length_map, l2]
        refine ⟨vs2, hD4, by rw [lv2, sizeLine_eq]; omega, ext_put (eF.trans' eF4) nD, (B3'.same s4).put nDb nDc, vs2 ++ [.ref p'], gs2 ++ [g3], upd_same, ?_, by rw [List.length_append, l2]; rfl, fun g' hg' => ?_⟩
        · rw [List.map_append]
          exact (r2'.tups ((BF.tups eF4).trans TP) (gds_flat gs2)).append (.cons (.tup (TP _ _ hp') (RpAll.tups TP rp' (nds_flat g3))) .nil)
        · rcases List.mem_append.mp hg' with z | z
          · exact ok2 g' z
          · rw [List.mem_singleton.mp z]
            exact gok3
      rintro HM ⟨eM', BM, vs2, gs2, hD, r2', l2, ok2⟩
      have eM := eK.trans' eM'
      have l22 : gs2.length ≤ 2 := by
        have q2 := rg.len
        rw [List.length_map] at q2
        omega
      have DL : D ≠ L := fun z => by
        have q := eK L _ nLb hL
        rw [← z, nD] at q
        cases q
      try dsimp only
      show tDrop _ _ [some (.ref b), some (.str so), some (.int n), some (.ref p1), some (.ref p2), some (.ref L), some (.int (1 + r2)), some (.int (0 + (i : Int))), some (.int af), some (.ref pd), some (.int te), some (.str gv), some (.ref D), x13, none, none, none, none, none] HM
      have hLM := eM L _ nLb hL
      refine ⟨_, rfl, .inl ⟨rfl, _, SqL.of hLM⟩, _, rfl, _, rfl, p1, _, _, .str y, rfl, rfl, SqT.of (tx eM _ _ hn5), (by rw [Int.zero_add]; exact atI_nat (by rw [List.getElem?_map, hy]; rfl)), _, rfl, b, c, 2, rfl, by decide, by decide, BM, fun z HN z0 z2' eN BN => ⟨8, z, rfl, rfl, ?_⟩⟩
      refine some_const (G := IntIn 0 12) (i := 0) (vs := ([0, 0, 1, 3] : List Int).map V.int) rfl BN (fun Q' q => q) (by simp) (by simp) (ints_in (by decide)) fun v HO hv eO BO => ?_
      obtain ⟨w', rfl, w0, w12⟩ := hv
      have eMO := eN.trans' eO
      refine ⟨_, rfl, by show 4 ≤ sizeLine; decide, fun t nt => ?_⟩
      have sP : Same HO (upd HO t (.lst [.str y, .int (8 - z), .int w', .ref D])) := same_new (Same.refl HO) nt
      have hP : upd HO t (.lst [.str y, .int (8 - z), .int w', .ref D]) t = some (.lst [.str y, .int (8 - z), .int w', .ref D]) := upd_same
      generalize upd HO t (.lst [.str y, .int (8 - z), .int w', .ref D]) = HP at sP hP
      have eMP : Ext b HM HP := eMO.trans' (ext_same sP)
      have eP : Ext b Hi HP := eM.trans' eMP
      have hLP := eMP L _ nLb hLM
      have tb : t ≠ b := ne_at nt BO.hbs
      have tL : t ≠ L := fun z => by
        have q := eMO L _ nLb hLM
        rw [← z, nt] at q
        cases q
      have tq : t ∉ qs := fun m => by
        obtain ⟨_, _, r⟩ := paired_mem prs t m
        obtain ⟨_, _, _, _, _, qb, _, _, _, hq, _⟩ := r.it
        have q := (eM.trans' eMO) t _ qb hq
        rw [nt] at q
        cases q
      have TP : Tups HP (upd HP L (.lst (qs.map V.ref ++ [.ref t]))) := Tups.put hLP
      have lq : (qs.map V.ref).length ≤ 15 := by
        have e : ∀ {as : List Addr} {bs : List Str}, Paired (Row 5 K Hi b L rs ns) as bs → as.length = bs.length := fun p => by
          induction p with
          | nil => rfl
          | cons _ _ ih => rw [List.length_cons, List.length_cons, ih]
        rw [List.length_map, e prs, List.length_take]
        omega
      refine ⟨L, qs.map V.ref, .ref t, rfl, rfl, hLP, by rw [sizeLine_eq]; omega, ⟨_, _, _, _, _, _, _, rfl⟩, ext_put (Ei.trans' eP) nL0, (BO.same sP).put nLb nLc, (tx eP).trans TP, qs ++ [t], by rw [upd_same, List.map_append]; rfl, ?_, fun q hq => ?_, ?_⟩
      · rw [List.nodup_append]
        exact ⟨nq, (by simp), fun x hx y hy z => by rw [List.mem_singleton.mp hy] at z; exact tq (z ▸ hx)⟩
      · rcases List.mem_append.mp hq with z | z
        · exact nqL q z
        · rw [List.mem_singleton.mp z]
          exact ⟨tL, ne_at nt BO.hcs, (Ei.trans' (eM.trans' eMO)).dom' BO t nt⟩
      · rw [List.take_succ, hy]
        exact Paired.snoc (Paired.mapP prs fun p kv h => (h.ext Bi eP).putL hLP) ⟨8 - z, w', D, vs2, gs2, tb, tL, nDb, DL, by rw [upd_ne tL]; exact hP, by rw [upd_ne DL]; exact eMP D _ nDb hD, r2'.tups ((BM.tups eMP).trans TP) (gds_flat gs2), by omega, ok2, ⟨by omega, by omega⟩, w0, w12⟩
    · rintro σ' HQ ⟨⟨x7, x8, x9, x10, x11, x12, x13, rfl⟩, EQ, BQ, TQ, qs, hL, nq, nqL, prs⟩
      rw [List.take_length] at prs
      try dsimp only
      show tSeq _ _ _ [some (.ref b), some (.str so), some (.int n), some (.ref p1), some (.ref p2), some (.ref L), some (.int (1 + r2)), x7, x8, x9, x10, x11, x12, x13, none, none, none, none, none] HQ
      obtain ⟨kk, hkk⟩ : ∃ kk : Bool, decide (so = "ever") = kk := ⟨_, rfl⟩
      have lqs : qs.length ≤ 15 := by
        have e : ∀ {as : List Addr} {bs : List Str}, Paired (Row 5 K HQ b L rs ns) as bs → as.length = bs.length := fun p => by
          induction p with
          | nil => rfl
          | cons _ _ ih => rw [List.length_cons, List.length_cons, ih]
        rw [e prs]
        exact nl
      refine ⟨_, rfl, _, rfl, rfl, .inr ⟨_, rfl, L, _, qs.map V.ref, rfl, rfl, hL, by split <;> decide, by split <;> decide, ?_, fun pl npl => ?_⟩⟩
      · rw [List.length_map, sizeLine_eq]
        split
        · show qs.length * 1 ≤ _
          omega
        · show qs.length * 0 ≤ _
          omega
      have reps : ∀ k : Bool, ∃ us : List Addr, (List.replicate ((if k = true then (1 : Int) else 0).toNat) (qs.map V.ref)).flatten = us.map V.ref ∧ us.length ≤ 15 ∧ ∀ q ∈ us, q ∈ qs := fun k => by
        cases k with
        | false => exact ⟨[], rfl, by decide, fun q m => absurd m List.not_mem_nil⟩
        | true => exact ⟨qs, by show (List.replicate 1 (qs.map V.ref)).flatten = _; simp, lqs, fun q m => m⟩
      obtain ⟨us, eus, lus, inus⟩ := reps _
      rw [eus]
      have plb : pl ≠ b := ne_at npl BQ.hbs
      have plc : pl ≠ c := ne_at npl BQ.hcs
      have npl0 : H pl = none := EQ.dom' BQ pl npl
      have sR : Same HQ (upd HQ pl (.lst (us.map V.ref))) := same_new (Same.refl HQ) npl
      have hpl : upd HQ pl (.lst (us.map V.ref)) pl = some (.lst (us.map V.ref)) := upd_same
      generalize upd HQ pl (.lst (us.map V.ref)) = HR at sR hpl
      have plq : ∀ q ∈ qs, q ≠ pl := fun q m z => by
        obtain ⟨_, _, r⟩ := paired_mem prs q m
        obtain ⟨_, _, _, _, _, qb, _, _, _, hq, _⟩ := r.it
        rw [z, npl] at hq
        cases hq
      have BR := BQ.same sR
      refine ⟨pl, rfl, ⟨_, SqL.of hpl⟩, for_list (xs := us.map V.ref) (fun i σ' H' => (∃ y7 y12 y14, σ' = [some (.ref b), some (.str so), some (.int n), some (.ref p1), some (.ref p2), some (.ref L), some (.int (1 + r2)), y7, x8, x9, x10, x11, y12, x13, y14, none, none, none, none]) ∧ Ext b H H' ∧ BagC c H' b ∧ Tups H5 H' ∧ H' pl = some (.lst (us.map V.ref)) ∧ H' L = some (.lst (qs.map V.ref)) ∧ Paired (Row (5 + 3 * i) K H' b L rs ns) qs ns)
        ⟨⟨_, _, _, rfl⟩, EQ.trans' (ext_same sR), BR, TQ.trans (.same sR), hpl, sR _ _ hL, Paired.mapP prs fun p kv h => h.ext BQ (ext_same sR)⟩ (fun i σ' H' _ z => SqL.of z.2.2.2.2.1) ?_ ?_⟩
      · rintro i x σ' Hi hi ⟨⟨y7, y12, y14, rfl⟩, Ei, Bi, Ti, hpi, hLi, pri⟩
        obtain ⟨q, hq0, rfl⟩ : ∃ q, us[i]? = some q ∧ x = .ref q := by
          rw [List.getElem?_map] at hi
          cases z : us[i]? with
          | none => rw [z] at hi; cases hi
          | some q =>
            rw [z] at hi
            exact ⟨q, rfl, (Option.some.inj hi).symm⟩
        have il : i < 15 := by
          have := (List.getElem?_eq_some_iff.mp hq0).1
          omega
        have qin : q ∈ qs := inus q (List.mem_of_getElem? hq0)
        obtain ⟨y, yin, ry⟩ := paired_mem pri q qin
        obtain ⟨keep, bar, g, gvs, gs, qb, qL, gb, gL, hq, hg, rp, len, okg, kb, wb⟩ := ry.it
        try dsimp only
        show tAsg _ _ _ [some (.ref b), some (.str so), some (.int n), some (.ref p1), some (.ref p2), some (.ref L), some (.int (1 + r2)), y7, x8, x9, x10, x11, y12, x13, some (.ref q), none, none, none, none] Hi
        refine ⟨_, rfl, q, [.str y, .int keep, .int bar, .ref g], 3, .ref g, rfl, rfl, SqL.of hq, rfl, ?_⟩
        refine ⟨_, rfl, b, c, 3, rfl, by decide, by decide, Bi, fun r HA r0 r3 eA BA => ⟨r, rfl, by omega, by omega, fun D nD => ?_⟩⟩
        have TA := Ti.trans (Bi.tups eA)
        refine lc_draw (n := r.toNat) gd (fun g => (key_kb _ (gd_key g).1).2.1) (GOk rs ns 3) nD BA (by omega) (fun i H' Q' e' B' k' => ⟨_, rfl, _, rfl, _, rfl, b, c, p2, p1, rs, ns, rfl, B', st5.tups (TA.trans (BA.tups e')), fun p H2 g e2 B2 _ rp ok => k' p H2 g e2 B2 rp ok⟩) fun H8 gvs2 gs2 e8 B8 hD rg2 lg2 okg2 => ?_
        have e18 := eA.trans' e8
        have lv1 : gvs.length ≤ 50 := by rw [rp.len, List.length_map]; omega
        have lv2 : gvs2.length ≤ 3 := by rw [rg2.len, List.length_map]; omega
        refine ⟨g, D, gvs, gvs2, rfl, rfl, e18 g _ gb hg, hD, by rw [sizeLine_eq]; omega, fun u nu => ?_⟩
        have nub : u ≠ b := ne_at nu B8.hbs
        have nuc : u ≠ c := ne_at nu B8.hcs
        have hL8 := e18 L _ nLb hLi
        have hq8 := e18 q _ qb hq
        have uL : u ≠ L := fun z => by rw [z, hL8] at nu; cases nu
        have uq : u ≠ q := fun z => by rw [z, hq8] at nu; cases nu
        have s9 : Same H8 (upd H8 u (.lst (gvs ++ gvs2))) := same_new (Same.refl H8) nu
        have h9 : upd H8 u (.lst (gvs ++ gvs2)) u = some (.lst (gvs ++ gvs2)) := upd_same
        generalize upd H8 u (.lst (gvs ++ gvs2)) = H9 at s9 h9
        have e9 := e18.trans' (ext_same s9)
        have B9 := B8.same s9
        have hq9 := s9 _ _ hq8
        have r9 : RpAll K H9 (gvs ++ gvs2) ((gs ++ gs2).map gd) := by
          rw [List.map_append]
          exact (rp.tups (Bi.tups e9) (gds_flat gs)).append (RpAll.same s9 rg2)
        have l9 : (gs ++ gs2).length ≤ 5 + 3 * (i + 1) := by
          rw [List.length_append]
          omega
        have ok9 : ∀ x ∈ gs ++ gs2, GOk rs ns 3 x := fun x hx => (List.mem_append.mp hx).elim (okg x) (okg2 x)
        have qc : q ≠ c := (nqL q qin).2.1
        have TQ' : Tups H9 (upd H9 q (.lst [.str y, .int keep, .int bar, .ref u])) := Tups.put hq9
        refine ⟨_, rfl, q, _, 3, 3, rfl, rfl, hq9, rfl, ⟨_, _, _, rfl⟩, ext_put (Ei.trans' e9) (nqL q qin).2.2, B9.put qb qc, (Ti.trans (Bi.tups e9)).trans TQ', by rw [upd_ne (plq q qin).symm]; exact e9 pl _ plb hpi, by rw [upd_ne qL.symm]; exact e9 L _ nLb hLi, Paired.mapP pri fun p kv h => ((h.ext Bi e9).up (by omega)).more hq9 h9 nub uL uq r9 l9 ok9⟩
      · rintro σ' HS ⟨⟨y7, y12, y14, rfl⟩, ES, BS, TS, _, hLS, prS⟩
        try dsimp only
        show tSeq _ _ _ [some (.ref b), some (.str so), some (.int n), some (.ref p1), some (.ref p2), some (.ref L), some (.int (1 + r2)), y7, x8, x9, x10, x11, y12, x13, y14, none, none, none, none] HS
        refine ⟨_, rfl, L, rfl, ⟨_, SqL.of hLS⟩, fun D nD => ?_⟩
        have nDb : D ≠ b := ne_at nD BS.hbs
        have nDc : D ≠ c := ne_at nD BS.hcs
        have nD0 : H D = none := ES.dom' BS D nD
        refine lc_list (xs := qs.map V.ref) (fun i' H' => Ext b HS H' ∧ BagC c H' b ∧ ∃ (vs : List V) (ks : List Kd), H' D = some (.lst vs) ∧ RpAll K H' vs (ks.map Kd.d) ∧ ks.map Kd.name = ns.take i' ∧ ∀ k ∈ ks, KOk rs ns k)
          ⟨ext_put (Ext.refl' b HS) nD, BS.put nDb nDc, [], [], upd_same, .nil, rfl, fun x m => absurd m List.not_mem_nil⟩ (fun i' H' _ z => SqL.of (z.1 L _ nLb hLS)) ?_ ?_
        · rintro i x HF hi ⟨eF, BF, vs, ks, hD, rp, nm, oks⟩
          obtain ⟨q, hq0, rfl⟩ : ∃ q, qs[i]? = some q ∧ x = .ref q := by
            rw [List.getElem?_map] at hi
            cases z : qs[i]? with
            | none => rw [z] at hi; cases hi
            | some q =>
              rw [z] at hi
              exact ⟨q, rfl, (Option.some.inj hi).symm⟩
          obtain ⟨y, hy, ry0⟩ := paired_at prS hq0
          have ry := ry0.ext BS eF
          obtain ⟨keep, bar, g, gvs, gs, qb, qL, gb, gL, hq, hg, rg, len, okg, kb, wb⟩ := ry.it
          have il : i < ns.length := (List.getElem?_eq_some_iff.mp hy).1
          refine ⟨q, _, rfl, SqL.of hq, rfl, _, _, rfl, _, _, rfl, _, _, rfl, _, _, rfl, rfl, rfl, tyes_go ?_⟩
          refine ⟨_, rfl, _, rfl, _, rfl, _, rfl, _, rfl, g, gvs, rfl, SqL.of hg, fun p np => ?_⟩
          have sA : Same HF (upd HF p (.lst (cutV gvs none (some 4)))) := same_new (Same.refl HF) np
          have hA : upd HF p (.lst (cutV gvs none (some 4))) p = some (.lst (gvs.take 4)) := by rw [upd_same]; exact congrArg (fun l => some (HO.lst l)) (cut_take gvs 4)
          generalize upd HF p (.lst (cutV gvs none (some 4))) = HA at sA hA
          have rA : RpAll K HA (gvs.take 4) ((gs.take 4).map gd) := by
            rw [List.map_take]
            exact RpAll.take 4 (RpAll.same sA rg)
          have okA : ∀ x ∈ gs.take 4, GOk rs ns 3 x := fun x hx => okg x (List.mem_of_mem_take hx)
          have lA : (gs.take 4).length ≤ 4 := by rw [List.length_take]; omega
          refine once_go (.inl hA) rA (fit_gds (fun g hg => (okA g hg).ne) (by omega)) fun q' HC' vs' es sC nq' hq' rpq on => ?_
          obtain ⟨gs2, rfl, ok2, len2, nd2, asc2⟩ := once_gs (n := 4) lA okA on
          refine ⟨by show 4 ≤ sizeLine; decide, fun t nt => ?_⟩
          have sD : Same HC' (upd HC' t (.tup [.str y, .int keep, .int bar, .ref q'])) := same_new (Same.refl HC') nt
          have hT : upd HC' t (.tup [.str y, .int keep, .int bar, .ref q']) t = some (.tup [.str y, .int keep, .int bar, .ref q']) := upd_same
          generalize upd HC' t (.tup [.str y, .int keep, .int bar, .ref q']) = HG at sD hT
          have sall := (sA.trans sC).trans sD
          have hDG := sall _ _ hD
          have TP : Tups HG (upd HG D (.lst (vs ++ [.ref t]))) := Tups.put hDG
          have lk : ks.length ≤ 15 := by
            have e := congrArg List.length nm
            rw [List.length_map, List.length_take] at e
            omega
          have lv : vs.length ≤ 15 := by rw [rp.len, List.length_map]; exact lk
          refine ⟨vs, hDG, by rw [sizeLine_eq]; omega, ext_put (eF.trans' (ext_same sall)) nD, (BF.same sall).put nDb nDc, vs ++ [.ref t], ks ++ [⟨y, keep, bar, gs2⟩], upd_same, ?_, ?_, fun k' hk' => ?_⟩
          · rw [List.map_append]
            exact (rp.tups ((Tups.same sall).trans TP) (kds_flat ks)).append (.cons (.tup (TP _ _ hT) (.cons (.str y) (.cons (.int _) (.cons (.int _) (.cons (.tup (TP _ _ (sD _ _ hq')) (RpAll.tups ((Tups.same sD).trans TP) rpq (gds_flat gs2))) .nil))))) .nil)
          · rw [List.map_append, nm, List.take_succ, hy]
            rfl
          · rcases List.mem_append.mp hk' with z | z
            · exact oks k' z
            · rw [List.mem_singleton.mp z]
              exact ⟨kb, wb, ok2, len2, nd2, asc2⟩
        rintro Hi ⟨eF, Bi, vs, ks, hD, rp, nm, oks⟩
        have nm' : ks.map Kd.name = ns := by
          have e : ∀ {as : List Addr} {bs : List Str} {R : Addr → Str → Prop}, Paired R as bs → as.length = bs.length := fun p => by
            induction p with
            | nil => rfl
            | cons _ _ ih => rw [List.length_cons, List.length_cons, ih]
          rw [nm, List.length_map, e prS, List.take_length]
        have Ei := ES.trans' eF
        have Ti := TS.trans (BS.tups eF)
        refine ⟨_, rfl, _, rfl, .inl ⟨D, vs, rfl, SqL.of hD, fun t nt => ⟨by show 2 ≤ sizeLine; decide, fun u nu => ?_⟩⟩⟩
        have s1 : Same Hi (upd Hi t (.tup vs)) := same_new (Same.refl Hi) nt
        have g1 : upd Hi t (.tup vs) t = some (.tup vs) := upd_same
        generalize upd Hi t (.tup vs) = Hj at s1 g1 nu
        have s2 : Same Hj (upd Hj u (.tup [.ref p2, .ref t])) := same_new (Same.refl Hj) nu
        have st := s1.trans s2
        refine k u _ ⟨rs, ks⟩ (Ei.trans' (ext_same st)) (Bi.same st) ((Ei.trans' (ext_same s1)).dom' (Bi.same s1) u nu) (.tup upd_same (.cons (.tup (st _ _ (Ti _ _ hr5)) (rp_of_strs rs)) (.cons (.tup (s2 _ _ g1) (RpAll.same st rp)) .nil))) ⟨okR, ?_, ?_⟩ ⟨?_, ?_⟩
        · show NamesOk (ks.map Kd.name)
          rw [nm']
          exact okN
        · show ∀ k ∈ ks, KOk rs (ks.map Kd.name) k
          rw [nm']
          exact oks
        · have e := congrArg List.length nm'
          rw [List.length_map, N1.len] at e
          show ks.length ≤ n.toNat
          omega
        · show rs.length ≤ 2
          rw [N2.len]
          omega
end
end Gy

namespace GyEn
open PySem
open Sem (wp)
set_option maxHeartbeats 1000000 in
theorem meets_new1 {v : Value} {o : Obj} {H : Heap → Prop} (B : Begins v o H) :
    Meets (Builtin.«enumerate.__new__» ⟨[.type "enumerate", v], []⟩) (fun _ R s => H s.heap ∧
      R (.ok (.ret (.ref (s.heap.push o).objs.size))) { s with heap := (s.heap.push o).push { cls := .type "enumerate", data := .fields #[.none, .bool false, .ref s.heap.objs.size, rawInt 0, .none, .none] } }) :=
  .of_wp fun prog w A R s h => by
    obtain ⟨hp, g, d, tk, os⟩ := s; obtain ⟨h1, h⟩ := h
    have hsub := sub_enumerate
    have q1 : ∀ {A' : Around} {E : Value → Shared → Prop} {Q : Value → Shared → Prop}, Q (.ref hp.objs.size) ⟨hp.push o, g, d, tk, os⟩ → wpAny (model prog w) A' (pyIter v) Q E ⟨hp, g, d, tk, os⟩ :=
      fun q => B.iter prog w _ _ ⟨hp, g, d, tk, os⟩ _ h1 q
    wp_walk using q1
    refine wpAny_stack_any fun st => wpAny_pure ?_
    split
    · rename_i c _ _ _ _ _
      cases (c == Value.type "enumerate")
      · wp_walk using q1
        exact ⟨_, rfl, h⟩
      · wp_walk using q1
        exact ⟨_, rfl, h⟩
    · wp_walk using q1
      exact ⟨_, rfl, h⟩
section
variable {prog : Program} {w : World} {A : Around} {E : Value → Shared → Prop} {s : Shared}
theorem call_enum {v : Value} {o : Obj} {H : Heap → Prop} {Q : Value → Shared → Prop} (B : Begins v o H) (h1 : H s.heap)
    (h : ∀ h', IsEnum h' (s.heap.objs.size + 1) s.heap.objs.size 0 .none → h'.get? s.heap.objs.size = some o → h'.objs.size = s.heap.objs.size + 2 →
      (∀ b o, s.heap.get? b = some o → h'.get? b = some o) → Q (.ref (s.heap.objs.size + 1)) { s with heap := h' }) :
    wpAny (model prog w) A (call (.type "enumerate") [v]) Q E s := by
  refine callType_new F.called_enumerate (by decide) (F.typeCall_enumerate_1 _) (F.newCall_enumerate_1 _) (fun obj => F.args_object_init_2 obj _) F.entry_enumerate_new
    (meets_new1 B) ⟨h1, ?_⟩
  have hz : (s.heap.push o).objs.size = s.heap.objs.size + 1 := Heap.size_push ..
  show _ ∧ _
  rw [hz]
  have he : IsEnum ((s.heap.push o).push { cls := .type "enumerate", data := .fields #[.none, .bool false, .ref s.heap.objs.size, rawInt 0, .none, .none] }) (s.heap.objs.size + 1) s.heap.objs.size 0 .none := by
    have := Heap.get?_push_size (s.heap.push o) (o := { cls := .type "enumerate", data := .fields #[.none, .bool false, .ref s.heap.objs.size, rawInt 0, .none, .none] }) rfl
    rw [hz] at this; exact this
  refine ⟨⟨_, he, rfl⟩, h _ he (Heap.get?_push_of_some _ (Heap.get?_push_size _ B.free)) (by rw [Heap.size_push, hz]) fun b o x => Heap.get?_push_of_some _ (Heap.get?_push_of_some _ x)⟩
end
theorem enum_endT {prog : Program} {w : World} {A : Around} {E : Value → Shared → Prop} {s : Shared} {e it l : Addr} {i : Nat} {items : Array Value} {old : Value} {Q : Option Value → Shared → Prop} (hh : A.handled = none)
    (he : IsEnum s.heap e it i old) (hit : s.heap.IsTupleIter it l i) (hl : s.heap.IsTuple l items) (hx : items[i]? = none)
    (hQ : ∀ h', Heap.ExtBut it s.heap h' → Q none { s with heap := h' }) : wpAny (model prog w) A (pyNext (.ref e)) Q E s := by
  have hT : s.TypeIs (.ref e) "enumerate" := ⟨_, he, rfl⟩
  unfold pyNext
  refine wpAny_bind (wpAny_attempt (wpAny_callSpecial?_slot (name := Str.ofString "__next__") hT F.slot_enumerate_next
    (wpAny_call_entry F.slot_enumerate_next hT F.entry_enumerate_next ?_ (F.args_enumerate_next_1 _))))
  show wpAny _ _ (field (.ref e) 2 >>= _) _ _ _
  refine wpAny_bind (wpAny_field he rfl (x := .ref it) rfl ?_)
  refine wpAny_bind (wpAny_nextOf_tuple_end hh hit hl hx fun h' x he' hx' => ?_)
  obtain ⟨o, ho, hc⟩ := hx'
  refine wpAny_bind (wpAny_isInstance (T := "StopIteration") (b := true) ⟨o, ho, hc⟩ isSubtype_stop ?_)
  exact wpAny_pure (hQ _ he')
end GyEn
namespace Gy
open PySem L2 PySem.Spec PyProof.Rows
/-- the tuple at a, each item in a new pair with its place -/
def Iet (K : PySem.W.Frag) (a : Addr) : It :=
  ⟨fun i H => ∃ (xs : List V) (x : V), SqT K H a xs ∧ xs[i]? = some x, fun i H v H' => ∃ T x, v = .ref T ∧ H T = none ∧ H' = upd H T (.tup [.int (i : Nat), x]) ∧ ∀ xs, SqT K H a xs → xs[i]? = some x, fun i H => ∃ xs : List V, SqT K H a xs ∧ xs.length ≤ i⟩
theorem turn_enumT {P : Program} {w : World} {K : PySem.W.Frag} {elts : List Expr} {kk : Nat} {tpos : Pos} (a e it : Addr) (nat : a ≠ it) (nae : a ≠ e) :
    Turn P w K (.Tuple elts kk tpos) (Iet K a) [e, it] e (fun i h => (∃ old, IsEnum h e it ((i : Nat) : Int) old) ∧ h.IsTupleIter it a i ∧ e ≠ it) where
  mem := by simp
  obj := fun i h st b hb => by
    obtain ⟨⟨old, he⟩, ⟨o, ho, hc, hd⟩, _⟩ := st
    have e' : b = e ∨ b = it := by simpa using hb
    rcases e' with z | z
    · rw [z]; exact ⟨_, he, fun v q => nomatch q⟩
    · rw [z]; exact ⟨o, ho, fun v q => by rw [hd] at q; cases q⟩
  keep := fun i h h' st k => let ⟨⟨old, he⟩, hi, hne⟩ := st; ⟨⟨old, k e (by simp) _ he⟩, hi.at fun o q => k it (by simp) o q, hne⟩
  item := by
    intro X hP hw hK hc i pins s σ H E I hf st hg
    subst hP hw hK
    obtain ⟨⟨old, he⟩, hit, hne⟩ := st
    obtain ⟨xs, x, hq, hx⟩ := hg
    obtain ⟨its, rv, p, hz⟩ := I.tuple hq
    obtain ⟨u, hu, ru⟩ := rv.get hx
    have hel : e < s.heap.objs.size := Heap.lt_size he
    have hil : it < s.heap.objs.size := by obtain ⟨_, q, _⟩ := hit; exact Heap.lt_size q
    have hlt : i < its.toArray.size := by
      have := (List.getElem?_eq_some_iff.mp hu).1
      simpa using this
    refine wpAny_pyNext_enum_itemC (Draws.tuple (A := X.A.in1) (prog := X.prog) (w := X.w) (I.ok.hd hc) it a nat its.toArray) he ⟨hit, show s.heap.IsTuple a its.toArray from p⟩ hlt hne (by simp [hne, Ne.symm nae]) fun u' h' tk hu' ho hst hT hsz hk => ?_
    have eu : u' = u := by
      have q : its[i]? = some u' := by simpa using hu'
      rw [hu] at q
      exact (Option.some.inj q).symm
    subst eu
    refine ⟨_, rfl, wpAny_letOwnedTupleGo_enum (s := { s with heap := h', toks := tk + 1 }) ho fun h'' he' sb => ?_⟩
    have hT2 : h''.get? s.heap.objs.size = some { cls := .type "tuple", data := .seq #[.int i tk, u'] } := (sb.2 _ (Nat.ne_of_gt hel)).trans hT
    have new : ObjOk X.prog X.w (upd H s.heap.objs.size (.tup [.int (i : Nat), x])) h'' s.heap.objs.size (.tup [.int (i : Nat), x]) :=
      ⟨by show 2 ≤ sizeLine; decide, [.int i tk, u'], .cons ⟨_, rfl⟩ (.cons ru .nil), ⟨_, hT2, rfl, _, rfl⟩⟩
    have I1 : Inv X pins σ (upd H s.heap.objs.size (.tup [.int (i : Nat), x])) { s with heap := h'', toks := tk + 1 } :=
      I.turnedNew (ch := [e, it]) (fun b ob hb q => (sb.2 b (fun z => hb (by simp [z]))).trans (hk b ob (fun z => hb (by simp [z])) (fun z => hb (by simp [z])) q)) hf (Nat.le_refl _) new
    refine ⟨.ref s.heap.objs.size, _, I1, rfl, ⟨_, x, rfl, I.hok.fresh (Nat.le_refl _), rfl, fun ys hy => by rw [I.tuple_inj hy hq]; exact hx⟩, ⟨⟨u', ?_⟩, hst.1.at fun o q => (sb.2 it (Ne.symm hne)).trans q, hne⟩, fun b hb => ?_⟩
    · have e1 : ((i + 1 : Nat) : Int) = (i : Int) + 1 := by omega
      rw [e1]; exact he'
    · have hb' : b < s.heap.objs.size := by
        have e' : b = e ∨ b = it := by simpa using hb
        rcases e' with z | z
        · rw [z]; exact hel
        · rw [z]; exact hil
      rw [upd_ne (Nat.ne_of_lt hb')]
      exact (hf b hb).1
  done := by
    intro X hP hw hK hc i pins s σ H E I hf st hg
    subst hP hw hK
    obtain ⟨⟨old, he⟩, hit, hne⟩ := st
    obtain ⟨xs, hq, hx⟩ := hg
    obtain ⟨its, rv, p, hz⟩ := I.tuple hq
    obtain ⟨f0, f1, f2, f3, f4, f5⟩ := hf it (by simp)
    have hl := rv.length
    exact GyEn.enum_endT (I.ok.hd hc) he hit (show s.heap.IsTuple a its.toArray from p) (by simp; omega) fun h' eb => ⟨rfl, I.turned (t' := s.toks) (fun b o hb q => eb b o hb q) f0 f1 f3 f4 f5⟩
  self := fun A i s Q E st h => let ⟨⟨_, he⟩, _⟩ := st; wpAny_pyIter_enum he h
def iEnumT (K : PySem.W.Frag) (ta : TA) : TI := fun σ H R => ta σ H fun vs H1 => ∃ a xs, vs = [.ref a] ∧ SqT K H1 a xs ∧ R (Iet K a) H1
theorem pi_enumT {X : Cx} {e : Expr} {ta : TA} {p pos tpos : Pos} {elts : List Expr} {kk : Nat} (hg : Gl X "enumerate") (hm : X.mg "enumerate" = none) (ha : PA X [e] ta) (hs : starEach [e] X.env = [(false, eval e X.env)] := by rfl) :
    PI X (.Tuple elts kk tpos) (.Call (.Name "enumerate" p) [e] [] pos) (iEnumT X.K ta) := by
  refine ⟨fun pins s σ H R I h => ?_⟩
  refine Call_ (ld_blt I hg hm boot_enumerate (PyProof.Rows.callWith_type1 (thn (ha.run pos pins s σ H _ I h) fun us s1 ⟨vs, H1, I1, r1, q1⟩ => ?_) hs rfl))
  obtain ⟨a, xs, ex, hq, q⟩ := q1
  subst ex
  cases r1 with
  | cons r rr =>
    cases rr
    cases r
    obtain ⟨its, rv, p', hz⟩ := I1.tuple hq
    have hat : a < s1.heap.objs.size := by
      obtain ⟨o, ho, _⟩ := (show s1.heap.IsTuple a its.toArray from p')
      exact Heap.lt_size ho
    refine GyEn.call_enum (begins_tuple a its.toArray) (show s1.heap.IsTuple a its.toArray from p') fun h' he hit hsz hk => wpAny_pyIter_enum he ?_
    have I2 : Inv X pins σ H1 { s1 with heap := h' } := I1.kept (t' := s1.toks) hk
    refine ⟨s1.heap.objs.size + 1, [s1.heap.objs.size + 1, s1.heap.objs.size], _, _, H1, rfl, I2, turn_enumT a (s1.heap.objs.size + 1) s1.heap.objs.size (Nat.ne_of_lt hat) (Nat.ne_of_lt (Nat.lt_succ_of_lt hat)), ⟨⟨.none, he⟩, ⟨_, hit, rfl, rfl⟩, Nat.succ_ne_self _⟩, fun b hb => ?_, q⟩
    have e' : b = s1.heap.objs.size + 1 ∨ b = s1.heap.objs.size := by simpa using hb
    have hle : s1.heap.objs.size ≤ b := by
      rcases e' with z | z
      · rw [z]; exact Nat.le_add_right _ _
      · rw [z]; exact Nat.le_refl _
    exact I1.fpOk hle (I1.hok.fresh hle)
theorem walk_enumT {K : PySem.W.Frag} {a : Addr} {xs : List V} : Walk (Iet K a) xs.length (fun H => SqT K H a xs) (YPair (fun i => some (.int (i : Nat))) (fun i => xs[i]?)) := by
  refine ⟨fun i _ hi q => ⟨xs, xs[i], q, by simp [hi]⟩, fun _ q => ⟨xs, q, Nat.le_refl _⟩, fun i H v H' _ q y => ?_⟩
  obtain ⟨T, x, h1, h2, h3, h4⟩ := y
  exact ⟨T, .int (i : Nat), x, h1, h2, h3, rfl, h4 xs q⟩
end Gy

namespace Gy
open PySem L2 PySem.Spec PyProof.Rows
/-- a def at hand: its name, its promise -/
structure Cal (P : Program) (w : World) (K : PySem.W.Frag) (mg : Str → Option Value) (base : Heap) (k : Nat) (x : Str) (ps : List Str) (sp : Sp) : Prop where
  ex : ∃ (f : Addr) (fd : FuncData), mg x = some (.ref f) ∧ L2.Binds K fd ps [] ∧ PySem.W.keepIn K (.ref f) = true ∧ FnOk P w K mg base CX0 k f fd ps sp
theorem pe_cal {X : Cx} {k : Nat} {x : Str} {ps : List Str} {sp : Sp} {e : Expr} {es : List Expr} {t : TA} {p pos : Pos} (C : Cal X.prog X.w X.K X.mg X.base k x ps sp) (hr : Room k X.A) (hg : Gl X x) (ha : PA X (e :: es) t)
    (hdb : (x == ("__debug__" : Str)) = false := by decide) (he : starEach (e :: es) X.env = (false, eval e X.env) :: starEach es X.env := by rfl) (hpl : (backTo pos (starEach es X.env)).any (·.1) = false := by rfl) :
    PE X (.Call (.Name x p) (e :: es) [] pos) (tCall sp [] E0 t) := by
  obtain ⟨f, fd, hm, hb, hk, F⟩ := C.ex
  exact pe_call F hr hg hm hk hb .nil pass0 ha hdb he hpl
/-- .. where the handled exception and the guards are known -/
structure CalG (P : Program) (w : World) (K : PySem.W.Frag) (mg : Str → Option Value) (base : Heap) (G : Around → Prop) (k : Nat) (x : Str) (ps : List Str) (sp : Sp) : Prop where
  ex : ∃ (f : Addr) (fd : FuncData), mg x = some (.ref f) ∧ L2.Binds K fd ps [] ∧ PySem.W.keepIn K (.ref f) = true ∧ FnG G P w K mg base k f fd ps sp
theorem pe_calG {X : Cx} {G : Around → Prop} {k : Nat} {x : Str} {ps : List Str} {sp : Sp} {e : Expr} {es : List Expr} {t : TA} {p pos : Pos} (C : CalG X.prog X.w X.K X.mg X.base G k x ps sp) (hr : RoomH k X.A) (hG : G X.A) (hg : Gl X x) (ha : PA X (e :: es) t)
    (hdb : (x == ("__debug__" : Str)) = false := by decide) (he : starEach (e :: es) X.env = (false, eval e X.env) :: starEach es X.env := by rfl) (hpl : (backTo pos (starEach es X.env)).any (·.1) = false := by rfl) :
    PE X (.Call (.Name x p) (e :: es) [] pos) (fun σ H Q => t σ H fun vs H1 => sp vs H1 Q E0) := by
  obtain ⟨f, fd, hm, hb, hk, F⟩ := C.ex
  exact pe_callG F hr hG hg hm hk hb ha hdb he hpl
theorem upd_get {H : Hp} {p : Addr} {o : HO} : upd H p o p = some o := upd_same
abbrev sRule : Stmt := top 38
/-- (rulebook, struck rows) -/
structure Struck (rows ss : List Str) : Prop where
  ne : ss ≠ []
  nd : ss.Nodup
  asc : sortedS ss = true
  sub : ∀ s ∈ ss, s ∈ rows
def spRule (K : PySem.W.Frag) : Sp := fun vs H Q _ => ∃ (b c : Addr) (n : Int), vs = [.ref b, .int n] ∧ 1 ≤ n ∧ n ≤ 15 ∧ BagC c H b ∧
  ∀ (t p q : Addr) (H' : Hp) (B : Bk) (ss : List Str), Ext b H H' → BagC c H' b → H t = none → H' t = some (.tup [.ref p, .ref q]) → Rp K H' (.ref p) B.d → BOk B → BSm B n.toNat 3 → H' q = some (.tup (ss.map V.str)) → Struck B.rows ss → Q (.ref t) H'
theorem risingS_take : ∀ {l : List Str} {x : Str} (n : Nat), risingS x l = true → risingS x (l.take n) = true
  | [], x, n, h => by rw [List.take_nil]; exact h
  | y :: l, x, 0, _ => rfl
  | y :: l, x, n + 1, h => by
    rw [List.take_succ_cons]
    simp only [risingS, Bool.and_eq_true] at h ⊢
    exact ⟨h.1, risingS_take n h.2⟩
theorem sortedS_take : ∀ {l : List Str} (n : Nat), sortedS l = true → sortedS (l.take n) = true
  | [], n, h => by rw [List.take_nil]; exact h
  | x :: l, 0, _ => rfl
  | x :: l, n + 1, h => risingS_take n h
theorem Bk.rp_rows {K : PySem.W.Frag} {H : Hp} {p : Addr} {B : Bk} (r : Rp K H (.ref p) B.d) : ∃ pr pk ks, H p = some (.tup [.ref pr, .ref pk]) ∧ H pr = some (.tup (B.rows.map V.str)) ∧ H pk = some (.tup ks) ∧ RpAll K H ks (B.kinds.map Kd.d) := by
  unfold Bk.d at r
  cases r with
  | tup e r =>
    cases r with
    | cons r1 r2 =>
      cases r2 with
      | cons r2 r3 =>
        cases r3
        cases r1 with
        | tup e1 r1 =>
          cases r2 with
          | tup e2 r2 => exact ⟨_, _, _, e, by rw [e1, rp_strs r1], e2, r2⟩
section
variable {P : Program} {w : World} {K : PySem.W.Frag} {mg : Str → Option Value} {base : Heap}
theorem scRule : FnScope ["_law_bag_here", "_law_kinds", "_law_way", "_law_found"] ["_law_bag_here", "_law_kinds"] (defScope sRule) := ⟨rfl, rfl, rfl, by decide +kernel, rfl, by decide +kernel, by decide +kernel⟩
theorem ok_rule {f : Addr} {fd : FuncData} (F : Fun K "_law_rulebook" "_law_rulebook" sRule f fd) (O : TxtO mg)
    (CT : Cal P w K mg base 1 "_law_take" ["_law_bag_here", "_law_upto"] spTake) (CS : Cal P w K mg base 2 "_law_some" ["_law_bag_here", "_law_things"] (spSome K)) (CM : Cal P w K mg base 2 "_law_mixed" ["_law_bag_here", "_law_things"] spMixed)
    (CA : Cal P w K mg base 6 "_law_any_rulebook" ["_law_bag_here", "_law_kinds", "_law_rows"] (spAny K)) (CH : Cal P w K mg base 4 "_law_threaded" ["_law_bag_here", "_law_kinds"] (spThreaded K)) (CP : Cal P w K mg base 6 "_law_planted" ["_law_bag_here", "_law_sort", "_law_kinds"] (spPlanted K)) :
    FnOk P w K mg base CX0 7 f fd ["_law_bag_here", "_law_kinds"] (spRule K) := by
  refine F.ok scRule (fun vs H Q E h => ?_) (fun cdv A outer s H vs Q E hr h => ?_)
  · obtain ⟨b, c, n, rfl, _⟩ := h
    rfl
  · obtain ⟨b, c, n, rfl, n1, n15, B, k⟩ := h
    have nd := scRule.nd
    have hr1 := hr.mono (by decide : 1 ≤ 6)
    have hr2 := hr.mono (by decide : 2 ≤ 6)
    have hr4 := hr.mono (by decide : 4 ≤ 6)
    refine ⟨_, pss_cons (ps_set (i := 2) nd rfl (Or.inl rfl) (pe_cal CT hr1 rfl (pa_cons (pv 0) (pa_cons pe_int pa_nil))))
      (pss_cons (ps_if (pt_cmpR op_lt (pv 2) pe_int (nomark _))
        (pss_cons (ps_set (i := 3) nd rfl (Or.inl rfl) (pe_cal CA hr rfl (pa_cons (pv 0) (pa_cons (pv 1) (pa_cons pe_int pa_nil)))))
        (pss_one (ps_ret (pe_tup (pa_cons (pv 3) (pa_cons (pe_tupleOf (by rfl) O.tup (pe_callB cr_sortedS (by rfl) O.srt (by decide +kernel) (pa_cons (pe_slice sl_list (pe_cal CM hr2 rfl (pa_cons (pv 0) (pa_cons (pe_ix ix_tup (pv 3) pe_int (fun _ _ => rfl)) pa_nil))) po_none
          (po_some (pe_cal CS hr2 rfl (pa_cons (pv 0) (pa_cons (pe_lst (pa_cons pe_int (pa_cons pe_int (pa_cons pe_int pa_nil)))) pa_nil))))) pa_nil))) pa_nil)))))) pss_nil)
      (C8.pss_cut (ps_if (pt_cmpR op_eq (pv 2) pe_int (nomark _))
        (pss_one (ps_set (i := 3) nd rfl (Or.inl rfl) (pe_cal CH hr4 rfl (pa_cons (pv 0) (pa_cons (pv 1) pa_nil)))))
        (pss_one (ps_set (i := 3) nd rfl (Or.inl rfl) (pe_cal CP hr rfl (pa_cons (pv 0) (pa_cons (pe_ix ix_list (pe_lst (pa_cons pe_str (pa_cons pe_str (pa_cons pe_str (pa_cons pe_str pa_nil))))) (pe_op op_sub (pv 2) pe_int) (fun _ _ => rfl)) (pa_cons (pv 1) pa_nil)))))))
      (pss_one (ps_ret (pe_tup (pa_cons (pv 3) (pa_cons (pe_slice sl_tupA (pe_ix ix_tup (pv 3) pe_int (fun _ _ => rfl)) po_none (po_some pe_int)) pa_nil))))))), ?_⟩
    refine ⟨_, rfl, b, c, 9, rfl, by decide, by decide, B, fun z H1 z0 z9 e1 B1 => ?_⟩
    try dsimp only
    show tSeq _ _ _ [some (.ref b), some (.int n), some (.int z), none] H1
    refine ⟨_, rfl, z, 4, rfl, rfl, _, rfl, ite2 (fun _ => ?_) fun h4 => ?_⟩
    · refine ⟨_, rfl, _, rfl, b, c, n, 3, rfl, n1, n15, by decide, by decide, B1, fun p H2 Bk2 e2 B2 np rp ok sm => ?_⟩
      obtain ⟨pr, pk, ks, hp, hpr, hpk, rks⟩ := Bk.rp_rows rp
      have prb : pr ≠ b := fun y => by
        obtain ⟨l, hl⟩ := B2.lst
        rw [y, hl] at hpr
        cases hpr
      refine ⟨_, rfl, _, rfl, _, rfl, p, _, 0, .ref pr, rfl, rfl, SqT.of hp, atI_nat (j := 0) rfl, b, c, pr, Bk2.rows.map V.str, rfl, prb, .inr hpr, by rw [List.length_map]; have := ok.rows.len; omega, B2, fun m H3 ys e3 B3 nm hm pm => ?_⟩
      refine some_const (G := IntIn 1 2) (i := 0) (vs := ([1, 1, 2] : List Int).map V.int) rfl B3 (fun Q' q => q) (by simp) (by simp) (ints_in (by decide)) fun v H4 hv e4 B4 => ?_
      obtain ⟨j, rfl, j1, j2⟩ := hv
      obtain ⟨zs, pz, rfl⟩ := Ns.perm_back V.str pm rfl
      have mb : m ≠ b := ne_at nm B2.hbs
      have hm4 := e4 m _ mb hm
      obtain ⟨jn, rfl⟩ : ∃ jn : Nat, j = jn := ⟨j.toNat, (Int.toNat_of_nonneg (by omega)).symm⟩
      refine ⟨_, rfl, m, zs.map V.str, rfl, SqL.of hm4, fun q nq => ?_⟩
      rw [cut_take, ← List.map_take]
      have lz : zs.length ≤ 15 := by rw [pz.length_eq]; exact ok.rows.len
      have l63 : (zs.take jn).length < 64 := by rw [List.length_take]; omega
      have s3 : Same H4 (upd H4 q (.lst ((zs.take jn).map V.str))) := same_new (Same.refl H4) nq
      have e5 : upd H4 q (.lst ((zs.take jn).map V.str)) q = some (.lst ((zs.take jn).map V.str)) := upd_same
      generalize upd H4 q (.lst ((zs.take jn).map V.str)) = H5 at s3 e5
      refine ⟨q, zs.take jn, rfl, SqL.of e5, l63, fun ws r pw sw nr => .inl ⟨r, _, rfl, SqL.of upd_same, fun t nt => ⟨by show 2 ≤ sizeLine; decide, fun u nu => ?_⟩⟩⟩
      have s4 : Same H5 (upd H5 r (.lst (ws.map V.str))) := same_new (Same.refl H5) nr
      generalize upd H5 r (.lst (ws.map V.str)) = H6 at s4 nt nu
      have s5 : Same H6 (upd H6 t (.tup (ws.map V.str))) := same_new (Same.refl H6) nt
      have g5 : upd H6 t (.tup (ws.map V.str)) t = some (.tup (ws.map V.str)) := upd_same
      generalize upd H6 t (.tup (ws.map V.str)) = H7 at s5 g5 nu
      have s6 : Same H7 (upd H7 u (.tup [.ref p, .ref t])) := same_new (Same.refl H7) nu
      have s47 := (s3.trans s4).trans s5
      have E7 : Ext b H H7 := (((e1.trans' e2).trans' e3).trans' e4).trans' (ext_same s47)
      have B7 := B4.same s47
      refine k u p t _ Bk2 ws (E7.trans' (ext_same s6)) (B7.same s6) (E7.dom' B7 u nu) upd_same (rp.tups (((B2.tups e3).trans (B3.tups e4)).trans (Tups.same (s47.trans s6))) (bk_flat Bk2)) ok sm (s6 _ _ g5) ⟨fun y => ?_, ?_, sw, fun x hx => ?_⟩
      · have := pw.length_eq
        rw [y, List.length_take, pz.length_eq] at this
        have ne := ok.rows.ne
        have : 0 < Bk2.rows.length := List.length_pos_iff.mpr ne
        simp only [List.length_nil] at *
        omega
      · exact pw.nodup_iff.mpr ((pz.nodup_iff.mpr ok.rows.nd).sublist (List.take_sublist _ _))
      · exact pz.mem_iff.mp (List.mem_of_mem_take (pw.mem_iff.mp hx))
    · try dsimp only
      show C8.tCut _ _ _ [some (.ref b), some (.int n), some (.int z), none] H1
      refine ⟨fun σ' H' => ∃ p Bk2, σ' = [some (.ref b), some (.int n), some (.int z), some (.ref p)] ∧ Ext b H H' ∧ BagC c H' b ∧ Rp K H' (.ref p) (Bk.d Bk2) ∧ BOk Bk2 ∧ BSm Bk2 n.toNat 3, ?_, ?_⟩
      · have z4 : 4 ≤ z := by simp at h4; omega
        refine ⟨_, rfl, rfl, _, rfl, ite2 (fun _ => ?_) fun h8 => ?_⟩
        · exact ⟨_, rfl, _, rfl, b, c, n, rfl, n1, n15, B1, fun p H2 Bk2 e2 B2 np rp ok sm => ⟨p, Bk2, rfl, e1.trans' e2, B2, rp, ok, sm.1, Nat.le_succ_of_le sm.2⟩⟩
        · have z8 : z ≠ 8 := by simpa using h8
          obtain ⟨j, hj, so, hso, hin⟩ : ∃ j : Nat, z - 4 = j ∧ ∃ so : Str, (([.str "ever", .str "longer", .str "gone", .str "none"] : List V))[j]? = some (.str so) ∧ so ∈ (["ever", "longer", "gone", "none"] : List Str) := by
            have : z = 4 ∨ z = 5 ∨ z = 6 ∨ z = 7 := by omega
            rcases this with rfl | rfl | rfl | rfl
            · exact ⟨0, rfl, _, rfl, by simp⟩
            · exact ⟨1, rfl, _, rfl, by simp⟩
            · exact ⟨2, rfl, _, rfl, by simp⟩
            · exact ⟨3, rfl, _, rfl, by simp⟩
          refine ⟨_, rfl, by show 4 ≤ sizeLine; decide, fun l nl => ⟨_, rfl, z, 4, rfl, rfl, l, _, z - 4, .str so, rfl, rfl, SqL.of upd_same, (by rw [hj]; exact atI_nat hso), _, rfl, ?_⟩⟩
          have s2 : Same H1 (upd H1 l (.lst [.str "ever", .str "longer", .str "gone", .str "none"])) := same_new (Same.refl H1) nl
          exact ⟨b, c, n, so, rfl, n1, n15, hin, B1.same s2, fun p H2 Bk2 e2 B2 np rp ok sm => ⟨p, Bk2, rfl, (e1.trans' (ext_same s2)).trans' e2, B2, rp, ok, sm.1, Nat.le_succ_of_le sm.2⟩⟩
      · rintro σ' H2 ⟨p, Bk2, rfl, E2, B2, rp, ok, sm⟩
        obtain ⟨pr, pk, ks, hp, hpr, hpk, rks⟩ := Bk.rp_rows rp
        have fin : ∀ (q : Addr) (H3 : Hp) (ss : List Str), Same H2 H3 → H3 q = some (.tup (ss.map V.str)) → Struck Bk2.rows ss → ∀ u, H3 u = none → Q (.ref u) (upd H3 u (.tup [.ref p, .ref q])) := fun q H3 ss s3 hq st u nu => by
          have s4 : Same H3 (upd H3 u (.tup [.ref p, .ref q])) := same_new (Same.refl H3) nu
          have E3 := E2.trans' (ext_same s3)
          exact k u p q _ Bk2 ss (E3.trans' (ext_same s4)) ((B2.same s3).same s4) (E3.dom' (B2.same s3) u nu) upd_same (rp.tups (Tups.same (s3.trans s4)) (bk_flat Bk2)) ok sm (s4 _ _ hq) st
        refine ⟨_, rfl, _, rfl, p, _, 0, .ref pr, rfl, rfl, SqT.of hp, atI_nat (j := 0) rfl, _, rfl, pr, Bk2.rows.map V.str, rfl, SqT.of hpr, fun hw => ⟨by show 2 ≤ sizeLine; decide, fun u nu => fin pr H2 Bk2.rows (Same.refl H2) hpr ⟨ok.rows.ne, ok.rows.nd, ok.rows.asc, fun x h => h⟩ u nu⟩, fun _ q nq => ⟨by show 2 ≤ sizeLine; decide, fun u nu => ?_⟩⟩
        have ec : cutV (Bk2.rows.map V.str) none (some 1) = (Bk2.rows.take 1).map V.str := by rw [List.map_take]; exact cut_take _ 1
        rw [ec] at nu ⊢
        refine fin q _ (Bk2.rows.take 1) (same_new (Same.refl H2) nq) upd_same ⟨fun y => ?_, ok.rows.nd.sublist (List.take_sublist _ _), sortedS_take 1 ok.rows.asc, fun x h => List.mem_of_mem_take h⟩ u nu
        have := congrArg List.length y
        rw [List.length_take, List.length_nil] at this
        have : 0 < Bk2.rows.length := List.length_pos_iff.mpr ok.rows.ne
        omega
end
end Gy

namespace Gy
open PySem L2 PySem.Spec PyProof.Rows
/-! ### tame data: short texts, small numbers, no dict: how long it is when shown -/
def tameS (x : Str) : Bool := decide ((reprText x).length ≤ 12) && PyData.strOk x
mutual
def D.tame : D → Bool
  | .non => true
  | .bl _ => true
  | .int i => decide (0 ≤ i) && decide (i < 1000)
  | .str x => tameS x
  | .tup ds => D.tameAll ds
  | .lst ds => D.tameAll ds
  | .dic _ _ => false
  | .exc _ _ => false
def D.tameAll : List D → Bool
  | [] => true
  | d :: ds => d.tame && D.tameAll ds
end
mutual
def D.nodes : D → Nat
  | .tup ds => 1 + D.nodesAll ds
  | .lst ds => 1 + D.nodesAll ds
  | .non => 1
  | .bl _ => 1
  | .int _ => 1
  | .str _ => 1
  | .dic _ _ => 1
  | .exc _ _ => 1
def D.nodesAll : List D → Nat
  | [] => 0
  | d :: ds => d.nodes + D.nodesAll ds
end
theorem small_shown : (List.range 1000).all (fun n => decide ((toString (n : Int) : Str).length ≤ 12)) = true := by decide +kernel
theorem int_shown {i : Int} (h0 : 0 ≤ i) (h1 : i < 1000) : (toString i : Str).length ≤ 12 := by
  obtain ⟨n, rfl⟩ : ∃ n : Nat, i = n := ⟨i.toNat, (Int.toNat_of_nonneg h0).symm⟩
  have q := List.all_eq_true.mp small_shown n (List.mem_range.mpr (by omega))
  exact of_decide_eq_true q
theorem int_ok {i : Int} (h0 : 0 ≤ i) (h1 : i < 1000) : decide (i.natAbs.log2 < 1920) = true := by
  refine decide_eq_true ?_
  have : i.natAbs < 2 ^ 10 := by omega
  rcases Nat.eq_zero_or_pos i.natAbs with z | z
  · rw [z]
    decide
  · have := (Nat.log2_lt (by omega)).mpr this
    omega
mutual
theorem tame_all : ∀ (d : D), d.tame = true → d.ok = true ∧ d.plain = true ∧ d.py.canLay0 = true ∧ d.py.depth = d.depth ∧ d.shown.length + 4 ≤ 16 * d.nodes
  | .non, _ => ⟨rfl, rfl, rfl, rfl, by simp only [D.shown, D.nodes]; decide⟩
  | .bl true, _ => ⟨rfl, rfl, rfl, rfl, by simp only [D.shown, D.nodes]; decide⟩
  | .bl false, _ => ⟨rfl, rfl, rfl, rfl, by simp only [D.shown, D.nodes]; decide⟩
  | .int i, h => by
    simp only [D.tame, Bool.and_eq_true, decide_eq_true_eq] at h
    have q := int_shown h.1 h.2
    exact ⟨by simp only [D.ok, int_ok h.1 h.2], rfl, rfl, rfl, by simp only [D.shown, D.nodes]; omega⟩
  | .str x, h => by
    simp only [D.tame, tameS, Bool.and_eq_true, decide_eq_true_eq] at h
    exact ⟨rfl, rfl, by simp only [D.py, PyData.canLay0, h.2], rfl, by simp only [D.shown, D.nodes]; omega⟩
  | .tup ds, h => by
    simp only [D.tame] at h
    obtain ⟨h1, h2, h3, h4, h5, h6⟩ := tame_alls ds h
    have q := tupleText_len_le (D.shownAll ds)
    rw [h6] at q
    exact ⟨by simp only [D.ok, h1], by simp only [D.plain, h2], by simp only [D.py, PyData.canLay0, h3], by simp only [D.py, PyData.depth, D.depth, h4], by simp only [D.shown, D.nodes]; omega⟩
  | .lst ds, h => by
    simp only [D.tame] at h
    obtain ⟨h1, h2, h3, h4, h5, h6⟩ := tame_alls ds h
    have q := listText_len_le (D.shownAll ds)
    rw [h6] at q
    exact ⟨by simp only [D.ok, h1], by simp only [D.plain, h2], by simp only [D.py, PyData.canLay0, h3], by simp only [D.py, PyData.depth, D.depth, h4], by simp only [D.shown, D.nodes]; omega⟩
  | .dic _ _, h => by cases h
  | .exc _ _, h => by cases h
theorem tame_alls : ∀ (ds : List D), D.tameAll ds = true → D.okAll ds = true ∧ D.plainAll ds = true ∧ PyData.canLayAll0 (D.pyAll ds) = true ∧ PyData.depthAll (D.pyAll ds) = D.depthAll ds ∧ ((D.shownAll ds).map (·.length)).sum + 4 * ds.length ≤ 16 * D.nodesAll ds ∧ (D.shownAll ds).length = ds.length
  | [], _ => ⟨rfl, rfl, rfl, rfl, by simp [D.shownAll, D.nodesAll], rfl⟩
  | d :: ds, h => by
    simp only [D.tameAll, Bool.and_eq_true] at h
    obtain ⟨h1, h2, h3, h4, h5⟩ := tame_all d h.1
    obtain ⟨g1, g2, g3, g4, g5, g6⟩ := tame_alls ds h.2
    refine ⟨by simp only [D.okAll, h1, g1, Bool.and_self], by simp only [D.plainAll, h2, g2, Bool.and_self], by simp only [D.pyAll, PyData.canLayAll0, h3, g3, Bool.and_self], by simp only [D.pyAll, PyData.depthAll, D.depthAll, h4, g4], ?_, by simp only [D.shownAll, List.length_cons, g6]⟩
    simp only [D.shownAll, D.nodesAll, List.map_cons, List.sum_cons, List.length_cons]
    omega
end
/-- fit to be shown and compared: tame, of at most n nodes and m levels -/
structure D.Fine (d : D) (n m : Nat) : Prop where
  tame : d.tame = true
  nodes : d.nodes ≤ n
  depth : d.depth ≤ m
structure FineL (ds : List D) (n m : Nat) : Prop where
  tame : D.tameAll ds = true
  nodes : D.nodesAll ds ≤ n
  depth : D.depthAll ds ≤ m
theorem FineL.tup {ds : List D} {n m : Nat} (h : FineL ds n m) : (D.tup ds).Fine (1 + n) (m + 1) := ⟨by simp only [D.tame, h.tame], by simp only [D.nodes]; have := h.nodes; omega, by simp only [D.depth]; have := h.depth; omega⟩
theorem FineL.lst {ds : List D} {n m : Nat} (h : FineL ds n m) : (D.lst ds).Fine (1 + n) (m + 1) := ⟨by simp only [D.tame, h.tame], by simp only [D.nodes]; have := h.nodes; omega, by simp only [D.depth]; have := h.depth; omega⟩
theorem FineL.nil : FineL [] 0 0 := ⟨rfl, Nat.le_refl _, Nat.le_refl _⟩
theorem FineL.cons {d : D} {ds : List D} {n m n' m' : Nat} (h : d.Fine n m) (h' : FineL ds n' m') : FineL (d :: ds) (n + n') (max m m') :=
  ⟨by simp only [D.tameAll, h.tame, h'.tame, Bool.and_self], by simp only [D.nodesAll]; have := h.nodes; have := h'.nodes; omega, by simp only [D.depthAll]; have := h.depth; have := h'.depth; omega⟩
theorem FineL.of {n m : Nat} : ∀ {ds : List D}, (∀ d ∈ ds, d.Fine n m) → FineL ds (n * ds.length) m
  | [], _ => ⟨rfl, Nat.zero_le _, Nat.zero_le _⟩
  | d :: ds, h => by
    have q := FineL.cons (h d List.mem_cons_self) (FineL.of fun e he => h e (List.mem_cons_of_mem _ he))
    refine ⟨q.tame, Nat.le_trans q.nodes ?_, Nat.le_trans q.depth (by simp)⟩
    rw [List.length_cons, Nat.mul_succ]
    omega
theorem D.Fine.mono {d : D} {n m n' m' : Nat} (h : d.Fine n m) (hn : n ≤ n') (hm : m ≤ m') : d.Fine n' m' := ⟨h.tame, Nat.le_trans h.nodes hn, Nat.le_trans h.depth hm⟩
theorem FineL.mono {ds : List D} {n m n' m' : Nat} (h : FineL ds n m) (hn : n ≤ n') (hm : m ≤ m') : FineL ds n' m' := ⟨h.tame, Nat.le_trans h.nodes hn, Nat.le_trans h.depth hm⟩
theorem fine_non : D.non.Fine 1 0 := ⟨rfl, Nat.le_refl _, Nat.le_refl _⟩
theorem fine_int {i : Int} (h0 : 0 ≤ i) (h1 : i < 1000) : (D.int i).Fine 1 0 := ⟨by simp only [D.tame, decide_eq_true h0, decide_eq_true h1, Bool.and_self], Nat.le_refl _, Nat.le_refl _⟩
theorem fine_str {x : Str} (h : tameS x = true) : (D.str x).Fine 1 0 := ⟨by simp only [D.tame, h], Nat.le_refl _, Nat.le_refl _⟩
theorem menu_tame : menu.all tameS = true := by decide +kernel
theorem fine_name {x : Str} (h : x ∈ menu) : (D.str x).Fine 1 0 := fine_str (List.all_eq_true.mp menu_tame x h)
/-! ### a book is fine -/
theorem Nd.fine {rows names : List Str} {x : Nd} (h : x.ok rows names) (hr : ∀ y ∈ rows, y ∈ menu) (hn : ∀ y ∈ names, y ∈ menu) : x.d.Fine 6 1 := by
  cases x with
  | row r t m =>
    obtain ⟨h1, h2, h3⟩ := h
    exact (FineL.tup (.cons (fine_str (by decide +kernel)) (.cons (fine_name (hr _ h1)) (.cons (fine_int h2.1 (by omega)) (.cons (fine_int h3.1 (by omega)) .nil))))).mono (by omega) (by omega)
  | knd n a t m =>
    obtain ⟨h1, h2, h3, h4⟩ := h
    exact (FineL.tup (.cons (fine_str (by decide +kernel)) (.cons (fine_name (hn _ h1)) (.cons (fine_int (by omega) (by omega)) (.cons (fine_int h3.1 (by omega)) (.cons (fine_int h4.1 (by omega)) .nil)))))).mono (by omega) (by omega)
theorem gd_fine {rows names : List Str} {g : List Nd} (h : GOk rows names 3 g) (hr : ∀ y ∈ rows, y ∈ menu) (hn : ∀ y ∈ names, y ∈ menu) : (gd g).Fine 19 2 := by
  have q := FineL.of (ds := g.map Nd.d) (n := 6) (m := 1) fun d hd => by
    obtain ⟨x, hx, rfl⟩ := List.mem_map.mp hd
    exact Nd.fine (h.ok x hx) hr hn
  refine q.tup.mono ?_ (by omega)
  rw [List.length_map]
  have := h.len
  omega
theorem kd_fine {rows names : List Str} {k : Kd} (h : KOk rows names k) (hk : k.name ∈ menu) (hr : ∀ y ∈ rows, y ∈ menu) (hn : ∀ y ∈ names, y ∈ menu) : k.d.Fine 90 4 := by
  have q := FineL.of (ds := k.gs.map gd) (n := 19) (m := 2) fun d hd => by
    obtain ⟨x, hx, rfl⟩ := List.mem_map.mp hd
    exact gd_fine (h.gs x hx) hr hn
  have len := h.len
  have k1 := h.keep
  have k2 := h.bar
  exact (FineL.tup (.cons (fine_name hk) (.cons (fine_int (by omega) (by omega)) (.cons (fine_int (by omega) (by omega)) (.cons q.tup .nil))))).mono (by rw [List.length_map]; omega) (by omega)
theorem BOk.name_in {B : Bk} (h : BOk B) {k : Kd} (hk : k ∈ B.kinds) : k.name ∈ menu := h.names.mem _ (List.mem_map_of_mem hk)
theorem BOk.kd_fine {B : Bk} (h : BOk B) {k : Kd} (hk : k ∈ B.kinds) : k.d.Fine 90 4 := Gy.kd_fine (h.kinds k hk) (h.name_in hk) h.rows.mem h.names.mem
theorem BOk.len {B : Bk} (h : BOk B) : B.kinds.length ≤ 15 := by
  have := h.names.len
  unfold Bk.names at this
  rw [List.length_map] at this
  exact this
theorem BOk.fine {B : Bk} (h : BOk B) : B.d.Fine 1400 6 := by
  have q1 := FineL.of (ds := B.rows.map D.str) (n := 1) (m := 0) fun d hd => by
    obtain ⟨x, hx, rfl⟩ := List.mem_map.mp hd
    exact fine_name (h.rows.mem x hx)
  have q2 := FineL.of (ds := B.kinds.map Kd.d) (n := 90) (m := 4) fun d hd => by
    obtain ⟨x, hx, rfl⟩ := List.mem_map.mp hd
    exact h.kd_fine hx
  have l1 := h.rows.len
  have l2 := h.len
  exact (FineL.tup (.cons q1.tup (.cons q2.tup .nil))).mono (by rw [List.length_map, List.length_map]; omega) (by omega)
theorem D.Fine.show {d : D} {n m : Nat} (h : d.Fine n m) (hn : n ≤ 100000) (hm : m ≤ 40) : d.ok = true ∧ d.shown.length ≤ sizeLine ∧ d.depth ≤ 40 := by
  obtain ⟨h1, _, _, _, h5⟩ := tame_all d h.tame
  have := h.nodes
  have := h.depth
  exact ⟨h1, by rw [sizeLine_eq]; omega, by omega⟩
theorem D.Fine.shaped {d : D} {n m : Nat} (h : d.Fine n m) (hm : m ≤ 40) : d.plain = true ∧ SeqAt.shaped d.py = true ∧ PyData.eqv d.py d.py = true := by
  obtain ⟨_, h2, h3, h4, _⟩ := tame_all d h.tame
  have := h.depth
  exact ⟨h2, by unfold SeqAt.shaped; rw [h3, Bool.true_and]; exact decide_eq_true (by omega), SeqAt.eqv_refl _ h3⟩
end Gy

namespace Gy
open PySem L2 PySem.Spec PyProof.Rows
/-! ### == of unlike things of equal content; of two tuples of the same things; of a text with anything -/
def SameV (x y : V) : Prop := (x = y ∧ flatB x = true) ∨ ∃ a, x = .ref a ∧ y = .ref a
theorem sameV_at {A : Around} {s : Shared} {xs ys : List V} (hp : Paired SameV xs ys) : ∀ {us ws : List Value}, Vals xs us → Vals ys ws → ∀ j (h1 : j < us.length) (h2 : j < ws.length), SeqAt.EqAt A s us[j] ws[j] true := by
  induction hp with
  | nil =>
    intro us ws r1 r2 j h1 h2
    cases r1
    exact absurd h1 (Nat.not_lt_zero j)
  | cons h _ k =>
    intro us ws r1 r2 j h1 h2
    cases r1 with
    | cons a1 b1 =>
      cases r2 with
      | cons a2 b2 =>
        cases j with
        | zero =>
          rcases h with ⟨rfl, f⟩ | ⟨a, rfl, rfl⟩
          · exact eqAt_same a1 a2 f
          · cases a1
            cases a2
            exact SeqAt.EqAt.same _
        | succ j => exact k b1 b2 j (Nat.lt_of_succ_lt_succ h1) (Nat.lt_of_succ_lt_succ h2)
theorem Rp.sameV {K : PySem.W.Frag} {H : Hp} {v : V} {d : D} (r : Rp K H v d) : SameV v v := by
  cases r with
  | non => exact .inl ⟨rfl, rfl⟩
  | bl b => exact .inl ⟨rfl, rfl⟩
  | int i => exact .inl ⟨rfl, rfl⟩
  | str x => exact .inl ⟨rfl, rfl⟩
  | lst e _ => exact .inr ⟨_, rfl, rfl⟩
  | tup e _ => exact .inr ⟨_, rfl, rfl⟩
  | dic e _ _ => exact .inr ⟨_, rfl, rfl⟩
  | exc e _ _ _ _ _ => exact .inr ⟨_, rfl, rfl⟩
section
variable {X : Cx}
def EqX (K : PySem.W.Frag) (H : Hp) (x y : V) : Prop := (∃ d, Rp K H x d ∧ Rp K H y d ∧ d.plain = true ∧ SeqAt.shaped d.py = true ∧ PyData.eqv d.py d.py = true) ∨ ∃ a b xs ys, x = .ref a ∧ y = .ref b ∧ SqT K H a xs ∧ SqT K H b ys ∧ Paired SameV xs ys
def rEqX (K : PySem.W.Frag) : R2 := fun x y H Q => EqX K H x y ∧ Q (.bl true) H
theorem op_eqX (hu : X.A.units + 64 < cLine) : OpR X (compareOp .Eq) (rEqX X.K) := by
  intro pins s σ H x y v u Q I rx ry h
  obtain ⟨⟨d, r1, r2, pl, sh, ev⟩ | ⟨a, b, xs, ys, rfl, rfl, ha, hb, hp⟩, q⟩ := h
  · exact op_eqD hu pins s σ H x y v u Q I rx ry ⟨d.py, d.py, r1.dp pl, r2.dp pl, sh, sh, by rw [ev]; exact q⟩
  · cases rx
    cases ry
    obtain ⟨us, r1, p1, _⟩ := I.tuple ha
    obtain ⟨ws, r2, p2, _⟩ := I.tuple hb
    refine SeqAt.rcIn_tuples (e := fun _ => true) (items := us.toArray) (items2 := ws.toArray) p1 p2 (by omega) (fun j h1 h2 => ?_) ?_
    · have k := sameV_at (A := X.A.in1) (s := s) hp r1 r2 j (by simpa using h1) (by simpa using h2)
      simpa using k.inModel X.prog X.w
    · have e1 : ((List.range (min us.toArray.size ws.toArray.size)).all fun _ => true) = true := List.all_eq_true.mpr fun _ _ => rfl
      have e2 : us.toArray.size = ws.toArray.size := by
        rw [List.size_toArray, List.size_toArray, ← r1.length, ← r2.length]
        exact Paired.length hp
      rw [e1, e2, beq_self_eq_true]
      exact ⟨.bl true, H, I, rfl, q⟩
theorem dict_declines (l : Addr) (dt : Data) (dd : Option Addr) (sl : Array (Option Value)) (b : Str) (u : Tok) :
    Meets (Builtin.«dict.__eq__» ⟨[.ref l, .str b u], []⟩) (fun _ R s => s.heap.get? l = some { cls := .type "dict", dict := dd, data := dt, slots := sl } ∧ R (.ok (.ret .notImplemented)) s) :=
  .of_wp fun prog w A R s h => by obtain ⟨hp, g, d, tk, os⟩ := s; obtain ⟨hl, h⟩ := h; have f1 := F.sub_str_dict; wp_walk using AutoSeq1.wpAny_loadPart' hl; exact ⟨_, rfl, h⟩
theorem str_declines (b : Str) (u : Tok) (l : Addr) (c : Value) (es : Array DictEntry) (ep : Nat) (dd : Option Addr) (sl : Array (Option Value)) :
    Meets (Builtin.«str.__eq__» ⟨[.str b u, .ref l], []⟩) (fun _ R s => s.heap.get? l = some { cls := c, dict := dd, data := .dict es ep, slots := sl } ∧ R (.ok (.ret .notImplemented)) s) :=
  .of_wp fun prog w A R s h => by obtain ⟨hp, g, d, tk, os⟩ := s; obtain ⟨hl, h⟩ := h; wp_walk using AutoSeq1.wpAny_loadPart' hl, wpAny_load hl; exact ⟨_, rfl, h⟩
/-- a text against anything -/
def rEqS (K : PySem.W.Frag) : R2 := fun x y H Q => ∃ z, x = .str z ∧ (∃ d, Rp K H y d ∧ d.top = true) ∧ Q (.bl (decide (y = .str z))) H
theorem op_eqS (hu : X.A.units + 64 < cLine) : OpR X (compareOp .Eq) (rEqS X.K) := by
  intro pins s σ H x y v u Q I rx ry h
  obtain ⟨z, rfl, ⟨d, r, ht⟩, q⟩ := h
  have hu' : X.A.units < cLine := by omega
  have off : ∀ {a : Addr}, y = .ref a → EP X pins σ Q (.bool false) s := fun e => ⟨.bl false, H, I, rfl, by rw [e] at q; exact q⟩
  cases r with
  | non => exact op_eq pins s σ H _ _ v u Q I rx ry ⟨rfl, by simpa using q⟩
  | bl b => exact op_eq pins s σ H _ _ v u Q I rx ry ⟨rfl, by simpa using q⟩
  | int i => exact op_eq pins s σ H _ _ v u Q I rx ry ⟨rfl, by simpa using q⟩
  | str w => exact op_eq pins s σ H _ _ v u Q I rx ry ⟨rfl, by simpa [eq_comm] using q⟩
  | @lst a xs ds e ha =>
    obtain ⟨t, rfl⟩ := rx
    cases ry
    obtain ⟨us, r1, p1, _⟩ := I.list (SqL.of e)
    exact SeqAt.RcAt.str_list z t p1.isList hu' X.prog X.w _ _ (off rfl)
  | @tup a xs ds e ha =>
    obtain ⟨t, rfl⟩ := rx
    cases ry
    obtain ⟨us, r1, p1, _⟩ := I.tuple (SqT.of e)
    exact SeqAt.RcAt.str_tuple z t p1 hu' X.prog X.w _ _ (off rfl)
  | @dic a ks xs ds e hl ha =>
    obtain ⟨t, rfl⟩ := rx
    cases ry
    obtain ⟨_, _, vs, _, o, es, ep, hg, hx, hdat, _⟩ := (show ObjOk X.prog X.w H s.heap a (.dK (List.zipWith (fun k v => (Sum.inr k, v)) ks xs)) from I.hok a _ e)
    obtain ⟨c, dd, dt, sl⟩ := o
    have hc : c = .type "dict" := hx.1
    have he : dt = .dict es ep := hdat
    subst hc
    subst he
    exact SeqAt.rc_eq_decline_or (k := false) (typeIs_str s z t) ⟨_, hg, rfl⟩ (by decide) F.sub_dict_str F.slot_str_eq F.slot_dict_eq_refl
      (fun _ hq => call_meets F.slot_str_eq (typeIs_str s z t) F.entry_str_eq (F.args_str_eq_2 _ _) (str_declines z t a (.type "dict") es ep dd sl) ⟨hg, hq⟩)
      (fun _ hq => call_meets F.slot_dict_eq_refl ⟨_, hg, rfl⟩ F.entry_dict_eq (F.args_dict_eq_2 _ _) (dict_declines a (.dict es ep) dd sl z t) ⟨hg, hq⟩)
      (fun _ hq => wpAny_of_eq (rfl : isSame (.str z t) (.ref a) = pure false) hq) (.inr hu') (off rfl)
  | exc _ _ _ _ _ _ => cases ht
end
end Gy

namespace Gy
open PySem L2 PySem.Spec PyProof.Rows
/-! ### a book as it lies -/
theorem Kd.rp {K : PySem.W.Frag} {H : Hp} {v : V} {k : Kd} (r : Rp K H v k.d) : ∃ a g gvs, v = .ref a ∧ H a = some (.tup [.str k.name, .int k.keep, .int k.bar, .ref g]) ∧ H g = some (.tup gvs) ∧ RpAll K H gvs (k.gs.map gd) := by
  unfold Kd.d at r
  cases r with
  | tup e r =>
    cases r with
    | cons r1 r =>
      cases r with
      | cons r2 r =>
        cases r with
        | cons r3 r =>
          cases r with
          | cons r4 r =>
            cases r
            cases r1
            cases r2
            cases r3
            cases r4 with
            | tup e4 r4 => exact ⟨_, _, _, rfl, e, e4, r4⟩
theorem gd_rp {K : PySem.W.Frag} {H : Hp} {v : V} {g : List Nd} (r : Rp K H v (gd g)) : ∃ a nvs, v = .ref a ∧ H a = some (.tup nvs) ∧ RpAll K H nvs (g.map Nd.d) := by
  unfold gd at r
  cases r with
  | tup e r => exact ⟨_, _, rfl, e, r⟩
theorem at_of {α : Type} {f : α → D} {K : PySem.W.Frag} {H : Hp} {vs : List V} {xs : List α} {i : Nat} {v : V} (r : RpAll K H vs (xs.map f)) (h : vs[i]? = some v) : ∃ x, xs[i]? = some x ∧ Rp K H v (f x) := by
  obtain ⟨d, hd, rd⟩ := RpAll.at r h
  rw [List.getElem?_map] at hd
  cases z : xs[i]? with
  | none => rw [z] at hd; cases hd
  | some x =>
    rw [z] at hd
    cases hd
    exact ⟨x, rfl, rd⟩
theorem at_to {α : Type} {f : α → D} {K : PySem.W.Frag} {H : Hp} {vs : List V} {xs : List α} {i : Nat} {x : α} (r : RpAll K H vs (xs.map f)) (h : xs[i]? = some x) : ∃ v, vs[i]? = some v ∧ Rp K H v (f x) := by
  have l : i < vs.length := by rw [r.len, List.length_map]; exact (List.getElem?_eq_some_iff.mp h).1
  obtain ⟨y, hy, ry⟩ := at_of r (List.getElem?_eq_getElem l)
  rw [h] at hy
  cases hy
  exact ⟨_, List.getElem?_eq_getElem l, ry⟩
/-- a comprehension whose items are new or old data of tuples -/
theorem lc_map {K : PySem.W.Frag} {J : It} {n : Nat} {G : Hp → Prop} {Y : Nat → Hp → V → Hp → Prop} (wk : Walk J n G Y) {g : TG} {te : TE} {σ : L2.St} {vs : List Nat} {Dx : Addr} {H1 : Hp} {Qd : Hp → Prop} (ds : List Gy.D) (hd : ds.length = n) (hf : Gy.D.flatAll ds = true) (nD : H1 Dx = none) (hn : n ≤ 100000)
    (hG : ∀ H', Same H1 H' → G H')
    (turn : ∀ i d x H' H'' (Q : VK), i < n → ds[i]? = some d → Same H1 H' → Y i H' x H'' → (∀ y H2, Same H' H2 → Rp K H2 y d → Q y H2) → g x (wipe σ vs) H'' fun σ2 H2 => wipe σ2 vs = wipe σ vs ∧ te σ2 H2 Q)
    (fin : ∀ (H' : Hp) (ys : List V), Same H1 H' → H' Dx = some (.lst ys) → RpAll K H' ys ds → Qd H')
    (mono : ∀ x σ' H' (A B : L2.St → Hp → Prop), (∀ σ2 H2, A σ2 H2 → B σ2 H2) → g x σ' H' A → g x σ' H' B) :
    ∃ W : Nat → Nat → Hp → Prop, (∃ m, W 0 m (upd H1 Dx (.lst []))) ∧ ∀ i m H, W i m H →
      (J.stop i H ∧ Qd H) ∨ (J.go i H ∧ ∃ Nx : Hp → Prop, (∀ H', Nx H' → ∃ m', m' < m ∧ W (i + 1) m' H') ∧ ∀ x H', J.yld i H x H' → g x (wipe σ vs) H' fun σ2 H2 => wipe σ2 vs = wipe σ vs ∧ tYes σ2 H2 fun bb H3 => if bb = true then te σ2 H3 fun y H4 => ∃ acc, H4 Dx = some (.lst acc) ∧ acc.length < sizeLine ∧ Nx (upd H4 Dx (.lst (acc ++ [y]))) else Nx H3) := by
  have flt : ∀ (l : List Gy.D), Gy.D.flatAll l = true → ∀ i, Gy.D.flatAll (l.take i) = true := by
    intro l
    induction l with
    | nil => intro _ i; rw [List.take_nil]; rfl
    | cons x l ih =>
      intro h i
      simp only [Gy.D.flatAll, Bool.and_eq_true] at h
      cases i with
      | zero => rfl
      | succ i => rw [List.take_succ_cons]; simp only [Gy.D.flatAll, h.1, ih h.2 i, Bool.and_self]
  have fla : ∀ (l : List Gy.D), Gy.D.flatAll l = true → ∀ d ∈ l, d.flat = true := by
    intro l
    induction l with
    | nil => intro _ d hd; cases hd
    | cons x l ih =>
      intro h d hd
      simp only [Gy.D.flatAll, Bool.and_eq_true] at h
      rcases List.mem_cons.mp hd with e | e
      · rw [e]; exact h.1
      · exact ih h.2 d e
  refine lc_it wk (fun i H' => Same H1 H' ∧ ∃ ys, H' Dx = some (.lst ys) ∧ RpAll K H' ys (ds.take i)) ⟨same_put (Same.refl H1) nD, [], upd_same, .nil⟩ (fun i H' _ z => hG H' z.1) ?_ ?_
  · rintro i x H' H'' hi ⟨s, ys, hD, r⟩ y
    obtain ⟨d, hdi⟩ : ∃ d, ds[i]? = some d := ⟨_, List.getElem?_eq_getElem (by omega)⟩
    refine mono _ _ _ _ _ (fun σ2 H2 z => ⟨z.1, tyes_go z.2⟩) (turn i d x H' H'' (fun v H4 => ∃ acc, H4 Dx = some (.lst acc) ∧ acc.length < sizeLine ∧ (Same H1 (upd H4 Dx (.lst (acc ++ [v]))) ∧ ∃ ys, (upd H4 Dx (.lst (acc ++ [v]))) Dx = some (.lst ys) ∧ RpAll K (upd H4 Dx (.lst (acc ++ [v]))) ys (ds.take (i + 1)))) hi hdi s y fun v H2 s2 rv => ?_)
    have hD2 := s2 _ _ hD
    have T3 : Tups H2 (upd H2 Dx (.lst (ys ++ [v]))) := Tups.put hD2
    have ly : ys.length = i := by rw [r.len, List.length_take]; omega
    refine ⟨ys, hD2, by rw [ly, sizeLine_eq]; omega, same_put (s.trans s2) nD, _, upd_same, ?_⟩
    rw [List.take_succ, hdi]
    exact (r.tups ((Tups.same s2).trans T3) (flt ds hf i)).append (.cons (Rp.tups T3 rv (fla ds hf d (List.mem_of_getElem? hdi))) .nil)
  · rintro H' ⟨s, ys, hD, r⟩
    rw [← hd, List.take_length] at r
    exact fin H' ys s hD r
theorem gName_mono {j : Nat} : ∀ x σ' H' (A B : L2.St → Hp → Prop), (∀ σ2 H2, A σ2 H2 → B σ2 H2) → gName j x σ' H' A → gName j x σ' H' B := fun x σ' H' A B h q => h _ _ q
/-! ### kind_of -/
abbrev sKof : Stmt := top 4
def spKof (K : PySem.W.Frag) (CN : Addr) : Sp := fun vs H Q E => ∃ (p : Addr) (v : V) (B : Bk), vs = [.ref p, v] ∧ Rp K H (.ref p) B.d ∧ (∃ d, Rp K H v d ∧ d.top = true) ∧
  (∀ a k, k ∈ B.kinds → v = .str k.name → Rp K H (.ref a) k.d → Q (.ref a) H) ∧
  ((∀ k ∈ B.kinds, v ≠ .str k.name) → ∀ dd H', Same H H' → H' dd = some (.xd [("name", v)]) → E (.ref CN) (some dd) H')
section
variable {P : Program} {w : World} {K : PySem.W.Frag} {mg : Str → Option Value} {base : Heap}
theorem scKof : FnScope ["rulebook", "name", "kind"] ["rulebook", "name"] (defScope sKof) := ⟨rfl, rfl, rfl, by decide +kernel, rfl, by decide +kernel, by decide +kernel⟩
theorem ok_kof {f CN : Addr} {fd : FuncData} (F : Fun K "kind_of" "kind_of" sKof f fd) (M : Mk1 P w K mg base "NoKind" CN "name") : FnOk P w K mg base (L2.CX P w) 3 f fd ["rulebook", "name"] (spKof K CN) := by
  refine F.okX scKof (fun vs H Q E h => ?_) (fun cdv A outer s H vs Q E hr h => ?_)
  · obtain ⟨p, v, B, rfl, _⟩ := h
    rfl
  · obtain ⟨p, v, B, rfl, rp, ⟨d, rv, hd⟩, kQ, kE⟩ := h
    have nd := scKof.nd
    have hu := hr.units
    refine ⟨_, pss_cons (ps_for (passes_of rfl) rfl (pi_tup (pe_ix ix_tup (pv 0) pe_int (fun _ _ => rfl))) (pg_name (i := 2) nd rfl (Or.inl rfl))
        (pss_one (ps_if (pt_cmpR (op_eqS hu) (pe_ix ix_tup (pv 2) pe_int (fun _ _ => rfl)) (pv 1) (nomark _)) (pss_one (ps_ret (pv 2))) pss_nil)))
      (pss_one (ps_raiseQ (K := K) (H0 := H) rfl (takes_of rfl rfl rfl rfl) rfl rfl rfl (pe_mk1 M hr rfl (pa_cons (pv 1) pa_nil)))), ?_⟩
    obtain ⟨pr, pk, ks, hp, hpr, hpk, rks⟩ := Bk.rp_rows rp
    refine ⟨_, rfl, p, _, 1, .ref pk, rfl, rfl, SqT.of hp, atI_nat (j := 1) rfl, pk, rfl, ⟨_, SqT.of hpk⟩, for_tup (xs := ks) (fun i σ' H' => (∃ x, σ' = [some (.ref p), some v, x]) ∧ H' = H ∧ ∀ j, j < i → ∀ k, B.kinds[j]? = some k → v ≠ .str k.name)
      ⟨⟨_, rfl⟩, rfl, fun j hj => absurd hj (Nat.not_lt_zero j)⟩ (fun i σ' H' _ z => by rw [z.2.1]; exact SqT.of hpk) ?_ ?_⟩
    · rintro i x σ' H' hi ⟨⟨x2, rfl⟩, rfl, no⟩
      obtain ⟨k, hk, rk⟩ := at_of rks hi
      obtain ⟨a, g, gvs, rfl, ha, hg, rg⟩ := Kd.rp rk
      refine ⟨_, rfl, a, _, 0, .str k.name, rfl, rfl, SqT.of ha, atI_nat (j := 0) rfl, _, rfl, k.name, rfl, ⟨d, rv, hd⟩, _, rfl, ite2 (fun e => ⟨_, rfl, kQ a k (List.mem_of_getElem? hk) (of_decide_eq_true e) rk⟩) fun e => ⟨⟨_, rfl⟩, rfl, fun j hj k' hk' => ?_⟩⟩
      rcases Nat.lt_succ_iff_lt_or_eq.mp hj with z | z
      · exact no j z k' hk'
      · subst z
        rw [hk] at hk'
        cases hk'
        exact fun y => e (decide_eq_true y)
    · rintro σ' H' ⟨⟨x2, rfl⟩, rfl, no⟩
      refine ⟨_, rfl, [("name", v)], rfl, fun e H2 s2 n2 ⟨dd, t, nd', _, he, hd', ht⟩ => ⟨e, CN, some dd, t, rfl, n2, he, M.q, .inr ⟨dd, _, rfl, hd', ?_⟩⟩⟩
      refine kE (fun k hk => ?_) dd _ (raised_same s2 n2 nd') upd_same
      obtain ⟨j, hj⟩ := List.getElem?_of_mem hk
      have l := (List.getElem?_eq_some_iff.mp hj).1
      exact no j (by rw [rks.len, List.length_map]; exact l) k hj
end
end Gy

namespace Gy
open PySem L2 PySem.Spec PyProof.Rows
/-! ### places, dead grounds: what they are -/
structure Pl where
  n : Str
  g : Nat
  j : Nat
def Pl.d (p : Pl) : D := .tup [.str p.n, .int p.g, .int p.j]
def plG (k : Kd) (g : Nat) : List Pl := (List.range (k.gs.getD g []).length).map fun j => ⟨k.name, g, j⟩
def plK (k : Kd) : List Pl := (List.range k.gs.length).flatMap (plG k)
def Bk.places (B : Bk) : List Pl := B.kinds.flatMap plK
def Bk.keepOf (B : Bk) (n : Str) : Int := match B.kinds.find? fun k => decide (k.name = n) with
  | some k => k.keep
  | none => 0
def Bk.deadN (B : Bk) : Nd → Bool
  | .row _ _ _ => false
  | .knd n a _ _ => decide (B.keepOf n ≤ a)
/-- a ground's name and index -/
def dgD (q : Str × Nat) : D := .tup [.str q.1, .int q.2]
def ddG (B : Bk) (k : Kd) (g : Nat) : List (Str × Nat) := if (k.gs.getD g []).any B.deadN then [(k.name, g)] else []
def ddK (B : Bk) (k : Kd) : List (Str × Nat) := (List.range k.gs.length).flatMap (ddG B k)
def Bk.dead (B : Bk) : List (Str × Nat) := B.kinds.flatMap (ddK B)
theorem flatMap_take {α β : Type} (f : α → List β) {l : List α} {i : Nat} {x : α} (h : l[i]? = some x) : (l.take (i + 1)).flatMap f = (l.take i).flatMap f ++ f x := by
  rw [List.take_succ, h, List.flatMap_append]
  simp
theorem flatMap_range {β : Type} (f : Nat → List β) (j : Nat) : (List.range (j + 1)).flatMap f = (List.range j).flatMap f ++ f j := by
  rw [List.range_succ, List.flatMap_append]
  simp
theorem flatMap_len {α β : Type} {f : α → List β} {c : Nat} : ∀ {l : List α}, (∀ x ∈ l, (f x).length ≤ c) → (l.flatMap f).length ≤ c * l.length
  | [], _ => Nat.zero_le _
  | x :: l, h => by
    rw [List.flatMap_cons, List.length_append, List.length_cons, Nat.mul_succ]
    have := h x List.mem_cons_self
    have := flatMap_len (f := f) (c := c) (l := l) fun y m => h y (List.mem_cons_of_mem _ m)
    omega
theorem getD_of {α : Type} {l : List α} {i : Nat} {x d : α} (h : l[i]? = some x) : l.getD i d = x := by
  rw [List.getD_eq_getElem?_getD, h]
  rfl
theorem getD_mem {α : Type} {l : List α} {i : Nat} {d : α} (h : i < l.length) : l.getD i d ∈ l := by
  rw [getD_of (List.getElem?_eq_getElem h)]
  exact List.getElem_mem h
theorem plG_len {rows names : List Str} {k : Kd} (h : KOk rows names k) (g : Nat) (hg : g < k.gs.length) : (plG k g).length ≤ 3 := by
  unfold plG
  rw [List.length_map, List.length_range]
  exact (h.gs _ (getD_mem hg)).len
theorem plK_len {rows names : List Str} {k : Kd} (h : KOk rows names k) : (plK k).length ≤ 12 := by
  have q := flatMap_len (f := plG k) (c := 3) (l := List.range k.gs.length) fun g hg => plG_len h g (List.mem_range.mp hg)
  rw [List.length_range] at q
  have := h.len
  unfold plK
  omega
theorem BOk.places_len {B : Bk} (h : BOk B) : B.places.length ≤ 180 := by
  have q := flatMap_len (f := plK) (c := 12) (l := B.kinds) fun k hk => plK_len (h.kinds k hk)
  have := h.len
  unfold Bk.places
  omega
theorem ddG_len (B : Bk) (k : Kd) (g : Nat) : (ddG B k g).length ≤ 1 := by
  unfold ddG
  split <;> simp
theorem ddK_len {B : Bk} {k : Kd} (h : BOk B) (hk : k ∈ B.kinds) : (ddK B k).length ≤ 4 := by
  have q := flatMap_len (f := ddG B k) (c := 1) (l := List.range k.gs.length) fun g _ => ddG_len B k g
  rw [List.length_range] at q
  have := (h.kinds k hk).len
  unfold ddK
  omega
theorem BOk.dead_len {B : Bk} (h : BOk B) : B.dead.length ≤ 60 := by
  have q := flatMap_len (f := ddK B) (c := 4) (l := B.kinds) fun k hk => ddK_len h hk
  have := h.len
  unfold Bk.dead
  omega
/-- where a place lies -/
def Pl.at (p : Pl) (B : Bk) : Prop := ∃ k gr nd, k ∈ B.kinds ∧ k.name = p.n ∧ k.gs[p.g]? = some gr ∧ gr[p.j]? = some nd
theorem places_at {B : Bk} : ∀ p ∈ B.places, p.at B := fun p hp => by
  obtain ⟨k, hk, hp⟩ := List.mem_flatMap.mp hp
  obtain ⟨g, hg, hp⟩ := List.mem_flatMap.mp hp
  obtain ⟨j, hj, rfl⟩ := List.mem_map.mp hp
  have hg := List.mem_range.mp hg
  have hj := List.mem_range.mp hj
  have e := List.getElem?_eq_getElem hg
  rw [getD_of e] at hj
  exact ⟨k, _, _, hk, rfl, e, List.getElem?_eq_getElem hj⟩
theorem dead_in {B : Bk} : ∀ p ∈ B.dead, ∃ k ∈ B.kinds, k.name = p.1 ∧ p.2 < k.gs.length := fun p hp => by
  obtain ⟨k, hk, hp⟩ := List.mem_flatMap.mp hp
  obtain ⟨g, hg, hp⟩ := List.mem_flatMap.mp hp
  unfold ddG at hp
  split at hp
  · rw [List.mem_singleton.mp hp]
    exact ⟨k, hk, rfl, List.mem_range.mp hg⟩
  · cases hp
theorem keepOf_at {B : Bk} (h : BOk B) {k : Kd} (hk : k ∈ B.kinds) : B.keepOf k.name = k.keep := by
  have nd := h.names.nd
  unfold Bk.names at nd
  unfold Bk.keepOf
  have : ∀ {l : List Kd}, (l.map Kd.name).Nodup → k ∈ l → l.find? (fun k' => decide (k'.name = k.name)) = some k := by
    intro l
    induction l with
    | nil => intro _ m; cases m
    | cons x l ih =>
      intro nd m
      rw [List.map_cons, List.nodup_cons] at nd
      rcases List.mem_cons.mp m with rfl | m
      · simp
      · have hne : x.name ≠ k.name := fun e => nd.1 (e ▸ List.mem_map_of_mem m)
        rw [List.find?_cons]
        simp only [hne, decide_false]
        exact ih nd.2 m
  rw [this nd hk]
theorem Pl.flat : ∀ ps : List Pl, D.flatAll (ps.map Pl.d) = true
  | [] => rfl
  | p :: ps => by simp only [List.map_cons, D.flatAll, Pl.d, D.flat, Pl.flat ps, Bool.and_self]
theorem dg_flat : ∀ ps : List (Str × Nat), D.flatAll (ps.map dgD) = true
  | [] => rfl
  | p :: ps => by simp only [List.map_cons, D.flatAll, dgD, D.flat, dg_flat ps, Bool.and_self]
/-! ### a growing list of a def's own -/
structure Grow (K : PySem.W.Frag) (H1 H : Hp) (L : Addr) (ds : List D) : Prop where
  same : Same H1 H
  ex : ∃ ys, H L = some (.lst ys) ∧ RpAll K H ys ds
theorem Grow.start {K : PySem.W.Frag} {H1 : Hp} {L : Addr} (nL : H1 L = none) : Grow K H1 (upd H1 L (.lst [])) L [] := ⟨same_put (Same.refl H1) nL, [], upd_same, .nil⟩
theorem Grow.later {K : PySem.W.Frag} {H1 H H' : Hp} {L : Addr} {ds : List D} (g : Grow K H1 H L ds) (hf : D.flatAll ds = true) (s : Same H H') : Grow K H1 H' L ds := by
  obtain ⟨ys, hL, r⟩ := g.ex
  exact ⟨g.same.trans s, ys, s _ _ hL, r.tups (Tups.same s) hf⟩
theorem Grow.more {K : PySem.W.Frag} {H1 H : Hp} {L : Addr} {ds es : List D} {zs : List V} (g : Grow K H1 H L ds) (nL : H1 L = none) (hf : D.flatAll ds = true) (he : D.flatAll es = true) (r : RpAll K H zs es) :
    ∃ ys, H L = some (.lst ys) ∧ ys.length = ds.length ∧ Grow K H1 (upd H L (.lst (ys ++ zs))) L (ds ++ es) := by
  obtain ⟨ys, hL, r0⟩ := g.ex
  have T : Tups H (upd H L (.lst (ys ++ zs))) := Tups.put hL
  exact ⟨ys, hL, r0.len, same_put g.same nL, _, upd_same, (r0.tups T hf).append (r.tups T he)⟩
end Gy

namespace Gy
open PySem L2 PySem.Spec PyProof.Rows
/-- a def at hand that may raise -/
structure CalX (P : Program) (w : World) (K : PySem.W.Frag) (mg : Str → Option Value) (base : Heap) (k : Nat) (x : Str) (ps : List Str) (sp : Sp) : Prop where
  ex : ∃ (f : Addr) (fd : FuncData), mg x = some (.ref f) ∧ L2.Binds K fd ps [] ∧ PySem.W.keepIn K (.ref f) = true ∧ FnOk P w K mg base (L2.CX P w) k f fd ps sp
theorem pe_calX {X : Cx} {k : Nat} {x : Str} {ps : List Str} {sp : Sp} {e : Expr} {es : List Expr} {t : TA} {p pos : Pos} (C : CalX X.prog X.w X.K X.mg X.base k x ps sp) (hr : Room k X.A) (hg : Gl X x) (ha : PA X (e :: es) t)
    (hdb : (x == ("__debug__" : Str)) = false := by decide) (he : starEach (e :: es) X.env = (false, eval e X.env) :: starEach es X.env := by rfl) (hpl : (backTo pos (starEach es X.env)).any (·.1) = false := by rfl) :
    PE X (.Call (.Name x p) (e :: es) [] pos) (tCall sp [] E0 t) := by
  obtain ⟨f, fd, hm, hb, hk, F⟩ := C.ex
  exact pe_call F hr hg hm hk hb .nil passL ha hdb he hpl
theorem name_inj : ∀ {l : List Kd}, (l.map Kd.name).Nodup → ∀ {k k' : Kd}, k ∈ l → k' ∈ l → k.name = k'.name → k = k'
  | x :: l, nd, k, k', h, h', e => by
    rw [List.map_cons, List.nodup_cons] at nd
    rcases List.mem_cons.mp h with y | y
    · rcases List.mem_cons.mp h' with z | z
      · rw [y, z]
      · rw [y] at e
        exact absurd (e ▸ List.mem_map_of_mem z) nd.1
    · rcases List.mem_cons.mp h' with z | z
      · rw [z] at e
        exact absurd (e ▸ List.mem_map_of_mem y) nd.1
      · exact name_inj nd.2 y z e
theorem BOk.inj {B : Bk} (h : BOk B) {k k' : Kd} (hk : k ∈ B.kinds) (hk' : k' ∈ B.kinds) (e : k.name = k'.name) : k = k' := name_inj h.names.nd hk hk' e
theorem BOk.kind {B : Bk} (h : BOk B) {n : Str} (hn : n ∈ B.names) : ∃ k ∈ B.kinds, k.name = n := List.mem_map.mp hn
theorem rp_bls {K : PySem.W.Frag} {H : Hp} : ∀ {bs : List Bool} {xs : List V}, RpAll K H xs (bs.map D.bl) → xs = bs.map V.bl
  | [], _, .nil => rfl
  | b :: bs, _, .cons r rs => by
    cases r
    rw [rp_bls rs]
    rfl
theorem bl_flat : ∀ bs : List Bool, D.flatAll (bs.map D.bl) = true
  | [] => rfl
  | b :: bs => by simp only [List.map_cons, D.flatAll, D.flat, bl_flat bs, Bool.and_self]
/-! ### need_at, is_dead_need, dead_grounds -/
def spNeedAt (K : PySem.W.Frag) : Sp := fun vs H Q _ => ∃ (p q : Addr) (B : Bk) (k : Kd) (g j : Nat) (gr : List Nd) (n : Nd), vs = [.ref p, .ref q] ∧ Rp K H (.ref p) B.d ∧ BOk B ∧ H q = some (.tup [.str k.name, .int g, .int j]) ∧ k ∈ B.kinds ∧ k.gs[g]? = some gr ∧ gr[j]? = some n ∧
  ∀ v, Rp K H v n.d → Q v H
def spDeadN (K : PySem.W.Frag) : Sp := fun vs H Q _ => ∃ (p : Addr) (v : V) (B : Bk) (n : Nd), vs = [.ref p, v] ∧ Rp K H (.ref p) B.d ∧ BOk B ∧ Rp K H v n.d ∧ n.ok B.rows B.names ∧ Q (.bl (B.deadN n)) H
def spDeadG (K : PySem.W.Frag) : Sp := fun vs H Q _ => ∃ (p : Addr) (B : Bk), vs = [.ref p] ∧ Rp K H (.ref p) B.d ∧ BOk B ∧
  ∀ (l : Addr) (H' : Hp) (ys : List V), Same H H' → H l = none → H' l = some (.lst ys) → RpAll K H' ys (B.dead.map dgD) → Q (.ref l) H'
section
variable {P : Program} {w : World} {K : PySem.W.Frag} {mg : Str → Option Value} {base : Heap}
end
end Gy

namespace Gy
open PySem L2 PySem.Spec PyProof.Rows
/-! ### dials: what they are; number_at, numbers_at -/
def wd : Nat → Str
  | 0 => "tell"
  | 1 => "most"
  | _ => "after"
def Nd.num : Nd → Nat → Int
  | .row _ t _, 0 => t
  | .row _ _ m, _ => m
  | .knd _ _ t _, 0 => t
  | .knd _ _ _ m, 1 => m
  | .knd _ a _ _, _ => a
def Nd.has : Nd → Nat → Prop
  | .row _ _ _, w => w < 2
  | .knd _ _ _ _, w => w < 3
inductive Dl where
  | kd (n : Str) (b : Bool)
  | nd (p : Pl) (w : Nat)
def Dl.d : Dl → D
  | .kd n b => .tup [.str n, .str (if b then "keep" else "bar")]
  | .nd p w => .tup [p.d, .str (wd w)]
def Dl.ok (B : Bk) : Dl → Prop
  | .kd n _ => n ∈ B.names
  | .nd p w => ∃ k gr nd, k ∈ B.kinds ∧ k.name = p.n ∧ k.gs[p.g]? = some gr ∧ gr[p.j]? = some nd ∧ nd.has w
def Bk.kindOf (B : Bk) (n : Str) : Option Kd := B.kinds.find? fun k => decide (k.name = n)
def Dl.num (B : Bk) : Dl → Int
  | .kd n b => match B.kindOf n with
    | some k => if b then k.keep else k.bar
    | none => 0
  | .nd p w => match B.kindOf p.n with
    | some k => ((k.gs.getD p.g []).getD p.j (.row "" 0 0)).num w
    | none => 0
theorem kindOf_at {B : Bk} (h : BOk B) {k : Kd} (hk : k ∈ B.kinds) : B.kindOf k.name = some k := by
  have nd := h.names.nd
  unfold Bk.names at nd
  unfold Bk.kindOf
  revert nd hk
  generalize B.kinds = l
  intro hk nd
  induction l with
  | nil => cases hk
  | cons x l ih =>
    rw [List.map_cons, List.nodup_cons] at nd
    rcases List.mem_cons.mp hk with e | m
    · subst e
      simp
    · have hne : x.name ≠ k.name := fun e => nd.1 (e ▸ List.mem_map_of_mem m)
      rw [List.find?_cons]
      simp only [hne, decide_false]
      exact ih m nd.2
theorem Dl.flat : ∀ ps : List Dl, D.flatAll (ps.map Dl.d) = true
  | [] => rfl
  | .kd _ _ :: ps => by simp only [List.map_cons, D.flatAll, Dl.d, D.flat, Dl.flat ps, Bool.and_self]
  | .nd p _ :: ps => by simp only [List.map_cons, D.flatAll, Dl.d, Pl.d, D.flat, Dl.flat ps, Bool.and_self]
def Nd.vs : Nd → List V
  | .row r t m => [.str "row", .str r, .int t, .int m]
  | .knd n a t m => [.str "kind", .str n, .int a, .int t, .int m]
theorem nd_rp {K : PySem.W.Frag} {H : Hp} {v : V} {n : Nd} (r : Rp K H v n.d) : ∃ q, v = .ref q ∧ H q = some (.tup n.vs) := by
  cases n with
  | row a t m =>
    unfold Nd.d at r
    cases r with
    | tup e r => exact ⟨_, rfl, by rw [e]; cases r with | cons r1 r => cases r with | cons r2 r => cases r with | cons r3 r => cases r with | cons r4 r => cases r; cases r1; cases r2; cases r3; cases r4; rfl⟩
  | knd a x t m =>
    unfold Nd.d at r
    cases r with
    | tup e r => exact ⟨_, rfl, by rw [e]; cases r with | cons r1 r => cases r with | cons r2 r => cases r with | cons r3 r => cases r with | cons r4 r => cases r with | cons r5 r => cases r; cases r1; cases r2; cases r3; cases r4; cases r5; rfl⟩
theorem pl_rp {K : PySem.W.Frag} {H : Hp} {v : V} {p : Pl} (r : Rp K H v p.d) : ∃ q, v = .ref q ∧ H q = some (.tup [.str p.n, .int p.g, .int p.j]) := by
  unfold Pl.d at r
  cases r with
  | tup e r => exact ⟨_, rfl, by rw [e]; cases r with | cons r1 r => cases r with | cons r2 r => cases r with | cons r3 r => cases r; cases r1; cases r2; cases r3; rfl⟩
/-- a tuple of texts of the written part -/
def KTup (K : PySem.W.Frag) (a : Addr) (ss : List Str) : Prop := ∃ (o : Obj) (its : Array Value) (n : Nat), K.lookup a = some o ∧ o.cls = .type "tuple" ∧ o.dict = none ∧ o.data = .seq its n ∧ its.size ≤ sizeLine ∧ Vals (ss.map V.str) its.toList
theorem KTup.sq {K : PySem.W.Frag} {a : Addr} {ss : List Str} (h : KTup K a ss) (H : Hp) : SqT K H a (ss.map V.str) := let ⟨o, its, n, h1, h2, _, h3⟩ := h; .inr ⟨o, its, n, h1, h2, h3⟩
theorem KTup.ty {K : PySem.W.Frag} {a : Addr} {ss : List Str} (h : KTup K a ss) (H : Hp) : tyV K "tuple" (.ref a) H := let ⟨o, its, n, h1, h2, h3, _⟩ := h; .inr (.inl ⟨rfl, o, h1, h2, h3⟩)
structure TxtW (K : PySem.W.Frag) (w : World) (mg : Str → Option Value) (aN aR aK aW : Addr) : Prop where
  gN : mg "NEED_WORDS" = some (.ref aN)
  gW : mg "KIND_WORDS" = some (.ref aW)
  dR : KDct K w aN "row" (.ref aR)
  dK : KDct K w aN "kind" (.ref aK)
  tR : KTup K aR ["tell", "most"]
  tK : KTup K aK ["after", "tell", "most"]
  tW : KTup K aW ["keep", "bar"]
  isi : mg "isinstance" = none
  tup : mg "tuple" = none
  yes : PySem.W.kitOne K (.type "tuple") (.type "tuple") = some true
  no : PySem.W.kitOne K (.type "str") (.type "tuple") = some false
def spNumAt (K : PySem.W.Frag) : Sp := fun vs H Q _ => ∃ (p : Addr) (v : V) (B : Bk) (x : Dl), vs = [.ref p, v] ∧ Rp K H (.ref p) B.d ∧ BOk B ∧ Rp K H v x.d ∧ x.ok B ∧ Q (.int (x.num B)) H
section
variable {P : Program} {w : World} {K : PySem.W.Frag} {mg : Str → Option Value} {base : Heap}
theorem words_of {aN aR aK aW : Addr} (T : TxtW K w mg aN aR aK aW) (n : Nd) (x : Nat) (h : n.has x) : ∃ (c : Str) (aT : Addr) (ws : List Str) (j : Nat), n.vs[0]? = some (.str c) ∧ KDct K w aN c (.ref aT) ∧ KTup K aT ws ∧ ws[j]? = some (wd x) ∧ (∀ m, m < j → ws[m]? ≠ some (wd x)) ∧ n.vs[2 + j]? = some (.int (n.num x)) := by
  cases n with
  | row r t m =>
    match x, h with
    | 0, _ => exact ⟨_, aR, _, 0, rfl, T.dR, T.tR, rfl, fun m hm => absurd hm (Nat.not_lt_zero m), rfl⟩
    | 1, _ => exact ⟨_, aR, _, 1, rfl, T.dR, T.tR, rfl, fun m hm => by
        obtain rfl : m = 0 := by omega
        show some (("tell" : Str)) ≠ some "most"
        decide +kernel, rfl⟩
    | x + 2, h => exact absurd h (by show ¬ (x + 2 < 2); omega)
  | knd r a t m =>
    match x, h with
    | 0, _ => exact ⟨_, aK, _, 1, rfl, T.dK, T.tK, rfl, fun m hm => by
        obtain rfl : m = 0 := by omega
        show some (("after" : Str)) ≠ some "tell"
        decide +kernel, rfl⟩
    | 1, _ => exact ⟨_, aK, _, 2, rfl, T.dK, T.tK, rfl, fun m hm => by
        have : m = 0 ∨ m = 1 := by omega
        rcases this with rfl | rfl
        · show some (("after" : Str)) ≠ some "most"
          decide +kernel
        · show some (("tell" : Str)) ≠ some "most"
          decide +kernel, rfl⟩
    | 2, _ => exact ⟨_, aK, _, 0, rfl, T.dK, T.tK, rfl, fun m hm => absurd hm (Nat.not_lt_zero m), rfl⟩
    | x + 3, h => exact absurd h (by show ¬ (x + 3 < 3); omega)
theorem rp_ints {H : Hp} : ∀ {bs : List Int} {xs : List V}, RpAll K H xs (bs.map D.int) → xs = bs.map V.int
  | [], _, .nil => rfl
  | b :: bs, _, .cons r rs => by
    cases r
    rw [rp_ints rs]
    rfl
theorem int_flat : ∀ bs : List Int, D.flatAll (bs.map D.int) = true
  | [] => rfl
  | b :: bs => by simp only [List.map_cons, D.flatAll, D.flat, int_flat bs, Bool.and_self]
end
def spNumsAt (K : PySem.W.Frag) : Sp := fun vs H Q _ => ∃ (p q : Addr) (B : Bk) (xs : List V) (ds : List Dl), vs = [.ref p, .ref q] ∧ Rp K H (.ref p) B.d ∧ BOk B ∧ H q = some (.tup xs) ∧ RpAll K H xs (ds.map Dl.d) ∧ (∀ x ∈ ds, x.ok B) ∧ ds.length ≤ 1000 ∧
  ∀ (t : Addr) (H' : Hp), Same H H' → H' t = some (.tup ((ds.map (Dl.num B)).map V.int)) → Q (.ref t) H'
section
variable {P : Program} {w : World} {K : PySem.W.Frag} {mg : Str → Option Value} {base : Heap}
end
end Gy

namespace Gy
open PySem L2 PySem.Spec PyProof.Rows
/-! ### the law's own: kinds, places -/
theorem put_new {kvs : List (Key × V)} {k : Key} {v : V} (h : k ∉ kvs.map (·.1)) : putK kvs k v = kvs ++ [(k, v)] := by
  unfold putK
  split
  · rename_i hs
    obtain ⟨kv, hk, hd⟩ := List.any_eq_true.mp hs
    exact absurd (of_decide_eq_true hd ▸ List.mem_map_of_mem hk) h
  · rfl
theorem merge_nodup : ∀ (more acc : List (Key × V)), (acc.map (·.1) ++ more.map (·.1)).Nodup → mergeK acc more = acc ++ more
  | [], acc, _ => by rw [List.append_nil]; rfl
  | kv :: more, acc, h => by
    show mergeK (putK acc kv.1 kv.2) more = _
    have hn : kv.1 ∉ acc.map (·.1) := fun m => by
      rw [List.nodup_append] at h
      exact h.2.2 _ m _ List.mem_cons_self rfl
    rw [put_new hn, merge_nodup more (acc ++ [(kv.1, kv.2)]), List.append_assoc]
    · rfl
    · rw [List.map_append, List.append_assoc]
      exact h
def keyed (ns : List Str) (ks : List V) : List (Key × V) := List.zipWith (fun n v => ((Sum.inr n : Key), v)) ns ks
theorem keyed_keys : ∀ {ns : List Str} {ks : List V}, ns.length = ks.length → (keyed ns ks).map (·.1) = ns.map Sum.inr
  | [], [], _ => rfl
  | n :: ns, k :: ks, h => by
    show Sum.inr n :: (keyed ns ks).map (·.1) = _
    rw [keyed_keys (by simpa using h)]
    rfl
  | [], _ :: _, h => by simp at h
  | _ :: _, [], h => by simp at h
theorem keyed_nodup {ns : List Str} {ks : List V} (h : ns.length = ks.length) (nd : ns.Nodup) : ((keyed ns ks).map (·.1)).Nodup := by
  rw [keyed_keys h]
  exact List.Pairwise.map _ (fun a b hne e => hne (by injection e)) nd
theorem keyed_at {ns : List Str} {ks : List V} {i : Nat} {n : Str} {v : V} (h1 : ns[i]? = some n) (h2 : ks[i]? = some v) : (keyed ns ks)[i]? = some (Sum.inr n, v) := by
  unfold keyed
  rw [List.getElem?_zipWith, h1, h2]
/-- the dict from the kinds' names to the kinds -/
def KD (K : PySem.W.Frag) (H : Hp) (d : Addr) (B : Bk) : Prop := ∃ ks, H d = some (.dK (keyed B.names ks)) ∧ RpAll K H ks (B.kinds.map Kd.d)
theorem KD.same {K : PySem.W.Frag} {H H' : Hp} {d : Addr} {B : Bk} (h : KD K H d B) (s : Same H H') : KD K H' d B := let ⟨ks, h1, h2⟩ := h; ⟨ks, s _ _ h1, RpAll.same s h2⟩
theorem KD.get {K : PySem.W.Frag} {H : Hp} {d : Addr} {B : Bk} (h : KD K H d B) (ok : BOk B) {k : Kd} (hk : k ∈ B.kinds) : ∃ v, DGet H d (.str k.name) (some v) ∧ Rp K H v k.d := by
  obtain ⟨ks, hd, r⟩ := h
  obtain ⟨i, hi⟩ := List.getElem?_of_mem hk
  obtain ⟨v, hv, rv⟩ := at_to r hi
  have hn : B.names[i]? = some k.name := by
    unfold Bk.names
    rw [List.getElem?_map, hi]
    rfl
  have l : B.names.length = ks.length := by
    unfold Bk.names
    rw [r.len, List.length_map, List.length_map]
  have q := val_self (keyed_nodup l ok.names.nd) _ (List.mem_of_getElem? (keyed_at hn hv))
  refine ⟨v, ?_, rv⟩
  rw [← q]
  exact DGet.k (k := Sum.inr k.name) hd
theorem rp_z {K : PySem.W.Frag} {H : Hp} (n : Nat) : Rp K H (.int (0 + (n : Int))) (.int (n : Int)) := by
  rw [Int.zero_add]
  exact .int _
def spKinds (K : PySem.W.Frag) : Sp := fun vs H Q _ => ∃ (p : Addr) (B : Bk), vs = [.ref p] ∧ Rp K H (.ref p) B.d ∧ BOk B ∧
  ∀ (d : Addr) (H' : Hp), Same H H' → H d = none → KD K H' d B → Q (.ref d) H'
section
variable {P : Program} {w : World} {K : PySem.W.Frag} {mg : Str → Option Value} {base : Heap}
end
end Gy

namespace Gy
open PySem L2 PySem.Spec PyProof.Rows
/-! ### the law's own: dials, number_at -/
def spDials (K : PySem.W.Frag) : Sp := fun vs H Q _ => ∃ (p : Addr) (B : Bk), vs = [.ref p] ∧ Rp K H (.ref p) B.d ∧ BOk B ∧
  ∀ (l : Addr) (H' : Hp) (ys : List V) (ds : List Dl), Same H H' → H l = none → H' l = some (.lst ys) → RpAll K H' ys (ds.map Dl.d) → (∀ x ∈ ds, x.ok B) → ds.length ≤ 600 → Q (.ref l) H'
def spNumAt2 (K : PySem.W.Frag) : Sp := fun vs H Q _ => ∃ (p : Addr) (v : V) (B : Bk) (x : Dl), vs = [.ref p, v] ∧ Rp K H (.ref p) B.d ∧ BOk B ∧ Rp K H v x.d ∧ x.ok B ∧ ∀ H', Same H H' → Q (.int (x.num B)) H'
structure TxtS (K : PySem.W.Frag) (mg : Str → Option Value) : Prop where
  isi : mg "isinstance" = none
  str : mg "str" = none
  non : PySem.W.kitOne K (.type "NoneType") (.type "str") = some false
  bl : PySem.W.kitOne K (.type "bool") (.type "str") = some false
  int : PySem.W.kitOne K (.type "int") (.type "str") = some false
  yes : PySem.W.kitOne K (.type "str") (.type "str") = some true
  lst : PySem.W.kitOne K (.type "list") (.type "str") = some false
  tup : PySem.W.kitOne K (.type "tuple") (.type "str") = some false
  dic : PySem.W.kitOne K (.type "dict") (.type "str") = some false
section
variable {P : Program} {w : World} {K : PySem.W.Frag} {mg : Str → Option Value} {base : Heap}
theorem nd_words (n : Nd) : ∃ (c : Str) (m : Nat), n.vs[0]? = some (.str c) ∧ ((c = "row" ∧ m = 2) ∨ (c = "kind" ∧ m = 3)) ∧ ∀ x, x < m → n.has x := by
  cases n with
  | row r t m => exact ⟨_, 2, rfl, .inl ⟨rfl, rfl⟩, fun x h => h⟩
  | knd r a t m => exact ⟨_, 3, rfl, .inr ⟨rfl, rfl⟩, fun x h => h⟩
end
end Gy

namespace Gy
open PySem L2 PySem.Spec PyProof.Rows
/-- try: .. except x as n: suite / except ..: .., where the first clause takes all that the body raises -/
def wFst (K : PySem.W.Frag) (c : Value) (i : Nat) (ts : Addr → Value → Option Addr → TS) (D : Ends) : WX := fun cls d σ H =>
  PySem.W.exmOne K cls c = some true ∧ ∀ a, H a = none → ts a cls d { nx := fun σ' H' => D.nx (σ'.set i none) H', rt := D.rt, bk := fun σ' H' => D.bk (σ'.set i none) H', ct := fun σ' H' => D.ct (σ'.set i none) H' } (σ.set i (some (.ref a))) H
section
variable {X : Cx} {x n : Str} {c : Value} {i : Nat} {body suite : List Stmt} {b₀ : Stmt} {hds : List ExceptHandler} {np pos pos' : Pos} {tb : WX → TS} {ts : Addr → Value → Option Addr → TS}
theorem ps_try_fst (hs : X.stack = X.env :: X.outer) (hf : X.env.frame = some X.env.locals) (hN : X.N.Nodup) (hi : X.N[i]? = some n) (hln : X.env.kindOf n = some .local) (hc : L2.Names X x c)
    (hb : ∀ (W : WX) (pn : List (Addr × Obj)) (xe : Value → Shared → Prop), Takes (X.tr pn xe) W → PassesOwn (model X.prog X.w) X.A X.env xe → PSs (X.tr pn xe) body (tb W))
    (hsu : ∀ (a : Addr) (oe : Obj) (cls : Value) (d : Option Addr) (pn : List (Addr × Obj)), Zc cls d oe → (∃ vs, oe.data = .fields vs) → PSs (X.suite a ((a, oe) :: pn)) (b₀ :: suite) (ts a cls d)) :
    PS X (.Try body (.ExceptHandler (some (.Name x np)) (some n) (b₀ :: suite) pos' :: hds) [] [] pos) (fun D σ H => tb (wFst X.K c i ts D) D σ H) := by
  refine ⟨fun pins s σ H D I h => ?_⟩
  have ok := I.ok
  have frs0 : X.A.frames = some (X.env :: X.outer) := by rw [ok.frames, hs]
  have loc0 : Loc X.env.scope n := .inl hln
  refine wpAny_Try_except ?_
  refine wpAny_mono ((hb (wFst X.K c i ts D) (X.pn ++ pins) (fun e sA => wpAny (model X.prog X.w) X.A (noteFrame e X.env) (fun _ sB => wpAny (model X.prog X.w) X.A (setFlight e none) (fun _ sC =>
    wpAny (model X.prog X.w) X.A (handleBy e X.env (.ExceptHandler (some (.Name x np)) (some n) (b₀ :: suite) pos' :: hds)) (SP X pins D) X.xe sC) X.xe sB) X.xe sA) (fun u s' xx => ?_) PassesOwn.looking).run [] s σ H D (I.toTry _) h) (fun f sA hsp => ?_) (fun e sA he => he)
  · obtain ⟨a, B, sI, pins', σ', H', cls, d, rfl, Jt, nb, up, sky, na, os, ag, hb1, hyes⟩ := xx
    have Jn : Inv X pins σ' H' sI := Jt.ofTry ok
    have skyn : Sky B (X.env :: X.outer) a (Zc cls d) X.env.locals s'.heap := by rw [← hs]; exact sky
    show wpAny (model X.prog X.w) X.A (noteFrame (.ref a) X.env) _ _ _
    refine Sky.land Zc.steady frs0 hf skyn fun hA flA upA => ?_
    have JA : Inv X pins σ' H' { s' with heap := hA } := Jn.landed nb flA.1 (up.trans upA) os ag
    obtain ⟨oA, vA, heA, hzA, hdA⟩ := flA.there
    have notin : a ∉ frs (X.env :: X.outer) := fun hm => by
      obtain ⟨_, o', e', hnf⟩ := (flA.2.2.1).mem hm
      rw [heA] at e'; cases e'
      exact hnf _ hdA
    have neL : a ≠ X.env.locals := fun z => notin (List.mem_filterMap.mpr ⟨X.env, List.mem_cons_self, by rw [hf, z]⟩)
    have neF : a ∉ X.fs := fun hm => by
      obtain ⟨e, he, q⟩ := List.mem_filterMap.mp hm
      exact notin (List.mem_filterMap.mpr ⟨e, List.mem_cons_of_mem _ he, q⟩)
    have SA := JA.suite heA hdA na neL neF
    refine wpAny_handleBy_cons (codeAny_handlers_test ?_) (by intro q; cases q)
    have lookT : PySem.W.Looks (model X.prog X.w) hA (typeOf (.ref a)) cls := fun A Q E s k q => wpAny_typeOf_ref (k _ _ heA) (by rw [hzA.1]; exact q)
    have lookM := PySem.W.exm_one (M := model X.prog X.w) (JA.kIn) lookT hb1
    have test : ∀ {Q : Value → Shared → Prop} {E : Value → Shared → Prop}, Q c { s' with heap := hA } → wpAny (model X.prog X.w) (X.A.mark (some (.ref a))) (eval (.Name x np) X.env) Q E { s' with heap := hA } := fun {Q E} q => by
      obtain ⟨hg, hdbg, hm | ⟨hm, hv, hnn⟩⟩ := hc
      · exact ld_glob (X := X.suite a ((a, oA) :: (X.pn ++ pins))) SA hg hm q hdbg
      · exact ld_blt (X := X.suite a ((a, oA) :: (X.pn ++ pins))) SA hg hm hv q hnn hdbg
    refine test (lookM.here ?_)
    refine codeAny_handlers_suite_as ?_
    refine HandSPX.lands_againZ flA fun hB flB upB => ?_
    have JB : Inv X pins σ' H' { s' with heap := hB } := Jn.landed nb flB.1 ((up.trans upA).trans upB) os ag
    obtain ⟨oB, vB, heB, hzB, hdB⟩ := flB.there
    have SB := JB.suite heB hdB na neL neF
    refine store_ok (X := X.suite a ((a, oB) :: (X.pn ++ pins))) (v := .ref a) SB hN hi loc0 rfl (fun sD SD => ?_) (.inr hln)
    refine wpAny_mono ((hsu a oB cls d (X.pn ++ pins) hzB ⟨_, hdB⟩).run [] sD _ H' _ SD (hyes a na)) (fun f sE hsp => ?_) (fun _ _ z => False.elim z)
    have fin : ∀ {σE : L2.St} {HE : Hp} {Q : Shared → Prop}, Inv (X.suite a ((a, oB) :: (X.pn ++ pins))) [] σE HE sE → (∀ sF, Inv X pins (σE.set i none) HE sF → Q sF) →
        wpAny (model X.prog X.w) X.A (do bindName X.env n .none; unbindBehindTheSuite X.env n pos') (fun _ sF => Q sF) X.xe sE := fun {σE HE Q} SE hq => gone_ok (SE.unsuite ok) hN hi hln hq
    cases f with
    | next =>
      obtain ⟨σE, HE, SE, qE⟩ := hsp
      exact fin SE fun sF JF => ⟨_, _, JF, qE⟩
    | brk =>
      obtain ⟨σE, HE, SE, qE⟩ := hsp
      exact fin SE fun sF JF => ⟨_, _, JF, qE⟩
    | cont =>
      obtain ⟨σE, HE, SE, qE⟩ := hsp
      exact fin SE fun sF JF => ⟨_, _, JF, qE⟩
    | ret u =>
      obtain ⟨vE, σE, HE, SE, rE, qE⟩ := hsp
      exact fin SE fun sF JF => ⟨_, _, _, JF, rE, qE⟩
  · cases f with
    | next =>
      obtain ⟨σN, HN, JN, q⟩ := hsp
      exact wpAny_execs_nil ⟨σN, HN, JN.ofTry ok, q⟩
    | brk =>
      obtain ⟨σN, HN, JN, q⟩ := hsp
      exact ⟨σN, HN, JN.ofTry ok, q⟩
    | cont =>
      obtain ⟨σN, HN, JN, q⟩ := hsp
      exact ⟨σN, HN, JN.ofTry ok, q⟩
    | ret u =>
      obtain ⟨vN, σN, HN, JN, r, q⟩ := hsp
      exact ⟨vN, σN, HN, JN.ofTry ok, r, q⟩
end
/-! ### heard_kind -/
def spHeard (K : PySem.W.Frag) : Sp := fun vs H Q _ => ∃ (p : Addr) (v : V) (B : Bk), vs = [.ref p, v] ∧ Rp K H (.ref p) B.d ∧ BOk B ∧ (∃ d, Rp K H v d ∧ d.top = true) ∧
  (∀ k ∈ B.kinds, v = .str k.name → ∀ t a H', Same H H' → H' t = some (.tup [.str "told", .ref a]) → Rp K H' (.ref a) k.d → Q (.ref t) H') ∧
  ((∀ k ∈ B.kinds, v ≠ .str k.name) → ∀ t H', Same H H' → H' t = some (.tup [.str "no kind", v]) → Q (.ref t) H')
section
variable {P : Program} {w : World} {K : PySem.W.Frag} {mg : Str → Option Value} {base : Heap}
end
end Gy

namespace Gy
open PySem L2 PySem.Spec PyProof.Rows
/-! ### sorted names are one list -/
theorem rising_pw : ∀ {l : List Str} {p : Str}, risingS p l = true → (p :: l).Pairwise fun a b => a.cps.toList ≤ b.cps.toList
  | [], p, _ => List.pairwise_singleton _ _
  | x :: l, p, h => by
    simp only [risingS, Bool.and_eq_true, Bool.not_eq_true'] at h
    have ih := rising_pw h.2
    have hpx : p.cps.toList ≤ x.cps.toList := by
      have q := h.1
      rw [ltCps_eq] at q
      exact of_decide_eq_false q
    rw [List.pairwise_cons]
    refine ⟨fun y hy => ?_, ih⟩
    rcases List.mem_cons.mp hy with e | hy
    · rw [e]; exact hpx
    · exact List.le_trans hpx ((List.pairwise_cons.mp ih).1 y hy)
theorem sorted_pw : ∀ {l : List Str}, sortedS l = true → l.Pairwise fun a b => a.cps.toList ≤ b.cps.toList
  | [], _ => .nil
  | _ :: _, h => rising_pw h
theorem str_ext {x y : Str} (h : x.cps.toList = y.cps.toList) : x = y := by
  obtain ⟨⟨x⟩⟩ := x
  obtain ⟨⟨y⟩⟩ := y
  have e : x = y := h
  rw [e]
theorem sorted_one {l m : List Str} (h : sortedS l = true) (h' : sortedS m = true) (p : l.Perm m) : l = m :=
  p.eq_of_pairwise (le := fun a b => a.cps.toList ≤ b.cps.toList) (fun a b _ _ h1 h2 => str_ext (List.le_antisymm h1 h2)) (sorted_pw h) (sorted_pw h')
/-! ### a promise of alike that fits unlike things of equal content -/
def AlikeX (K : PySem.W.Frag) (H : Hp) (x y : V) : Prop := ∃ d, Rp K H x d ∧ Rp K H y d ∧ d.ok = true ∧ d.shown.length ≤ sizeLine ∧ d.depth ≤ 40 ∧ EqX K H x y
def spAlikeX (K : PySem.W.Frag) : Sp := fun vs H Q _ => ∃ x y, vs = [x, y] ∧ AlikeX K H x y ∧ Q (.bl true) H
theorem AlikeX.of {K : PySem.W.Frag} {H : Hp} {x y : V} {d : D} {n m : Nat} (r : Rp K H x d) (r' : Rp K H y d) (f : d.Fine n m) (hn : n ≤ 100000) (hm : m ≤ 40) : AlikeX K H x y := by
  obtain ⟨h1, h2, h3⟩ := f.show hn hm
  obtain ⟨h4, h5, h6⟩ := f.shaped hm
  exact ⟨d, r, r', h1, h2, h3, .inl ⟨d, r, r', h4, h5, h6⟩⟩
section
variable {P : Program} {w : World} {K : PySem.W.Frag} {mg : Str → Option Value} {base : Heap}
theorem ok_alikeX {f : Addr} {fd : FuncData} (F : Fun K "_law_alike" "_law_alike" sAlike f fd) (zR : mg "repr" = none) : FnG NoGuard P w K mg base 1 f fd ["_law_found", "_law_due"] (spAlikeX K) := by
  refine fn_ofG (c := false) F scAlike (fun A _ z => Bool.noConfusion z) (fun vs H Q E h => ?_) (fun cdv A outer s H vs Q E hG hr h => ?_)
  · obtain ⟨x, y, rfl, _⟩ := h
    rfl
  · obtain ⟨x, y, rfl, ⟨d, rx, ry, ho, hz, hd, hxy⟩, q⟩ := h
    have hg : (A.deeper (envOfC "_law_alike" (defScope sAlike) s.heap.objs.size f cdv)).guards = some [] := by
      have e : A.guards = some [] := hG
      show (A.deeper _).guards = _
      simpa [Around.deeper] using e
    have hu : (A.deeper (envOfC "_law_alike" (defScope sAlike) s.heap.objs.size f cdv)).units + 64 < cLine := by
      have := hr.un
      omega
    refine ⟨_, pss_one (ps_ret (pe_and (pe_cmpR (op_eqX hu) (pv 0) (pv 1) (nomark _)) (pe_one (pe_cmpR op_eq (pe_callB (call_reprD hg hu) (by rfl) zR (by decide +kernel) (pa_cons (pv 0) pa_nil)) (pe_callB (call_reprD hg hu) (by rfl) zR (by decide +kernel) (pa_cons (pv 1) pa_nil)) (nomark _))))), ?_⟩
    refine ⟨_, rfl, _, rfl, ⟨hxy, _, rfl, iteT ⟨_, rfl, x, d, rfl, rx, ho, hz, hd, _, rfl, y, d, rfl, ry, ho, hz, hd, rfl, ?_⟩⟩⟩
    show Q (.bl (decide (V.str d.shown = V.str d.shown))) H
    rw [decide_eq_true rfl]
    exact q
end
/-! ### dials in another order; their numbers -/
theorem re_map {α : Type} {f : α → D} {ok : α → Prop} {K : PySem.W.Frag} {H : Hp} : ∀ {ys : List V}, (∀ y ∈ ys, ∃ x, Rp K H y (f x) ∧ ok x) → ∃ ds : List α, RpAll K H ys (ds.map f) ∧ (∀ x ∈ ds, ok x) ∧ ds.length = ys.length
  | [], _ => ⟨[], .nil, (fun x m => absurd m List.not_mem_nil), rfl⟩
  | y :: ys, h => by
    obtain ⟨x, rx, ox⟩ := h y List.mem_cons_self
    obtain ⟨ds, r, o, l⟩ := re_map fun z m => h z (List.mem_cons_of_mem _ m)
    refine ⟨x :: ds, .cons rx r, fun z m => ?_, by rw [List.length_cons, List.length_cons, l]⟩
    rcases List.mem_cons.mp m with e | m
    · rw [e]; exact ox
    · exact o z m
theorem nd_num {rows names : List Str} {n : Nd} {x : Nat} (h : n.ok rows names) : 0 ≤ n.num x ∧ n.num x < 1000 := by
  cases n with
  | row r t m =>
    obtain ⟨h1, h2, h3⟩ := h
    match x with
    | 0 => exact ⟨h2.1, by show t < 1000; omega⟩
    | x + 1 => exact ⟨h3.1, by show m < 1000; omega⟩
  | knd r a t m =>
    obtain ⟨h1, h2, h3, h4⟩ := h
    match x with
    | 0 => exact ⟨h3.1, by show t < 1000; omega⟩
    | 1 => exact ⟨h4.1, by show m < 1000; omega⟩
    | x + 2 => exact ⟨by show 0 ≤ a; omega, by show a < 1000; omega⟩
theorem dl_num {B : Bk} (ok : BOk B) {x : Dl} (h : x.ok B) : 0 ≤ x.num B ∧ x.num B < 1000 := by
  cases x with
  | kd n b =>
    obtain ⟨k, hk, rfl⟩ := ok.kind h
    have e : (Dl.kd k.name b).num B = if b then k.keep else k.bar := by
      show (match B.kindOf k.name with
        | some k => if b = true then k.keep else k.bar
        | none => 0) = _
      rw [kindOf_at ok hk]
    rw [e]
    have h1 := (ok.kinds k hk).keep
    have h2 := (ok.kinds k hk).bar
    cases b with
    | true => exact ⟨by show 0 ≤ k.keep; omega, by show k.keep < 1000; omega⟩
    | false => exact ⟨h2.1, by show k.bar < 1000; omega⟩
  | nd pl x =>
    obtain ⟨k, gr, n, hk, hn, hg, hj, hx⟩ := h
    have e : (Dl.nd pl x).num B = n.num x := by
      show (match B.kindOf pl.n with
        | some k => ((k.gs.getD pl.g []).getD pl.j (.row "" 0 0)).num x
        | none => 0) = _
      rw [← hn, kindOf_at ok hk]
      show ((k.gs.getD pl.g []).getD pl.j (.row "" 0 0)).num x = _
      rw [getD_of hg, getD_of hj]
    rw [e]
    exact nd_num (((ok.kinds k hk).gs gr (List.mem_of_getElem? hg)).ok n (List.mem_of_getElem? hj))
theorem fine_ints {B : Bk} (ok : BOk B) {ds : List Dl} (h : ∀ x ∈ ds, x.ok B) : FineL ((ds.map (Dl.num B)).map D.int) (1 * ds.length) 0 := by
  have q := FineL.of (ds := (ds.map (Dl.num B)).map D.int) (n := 1) (m := 0) fun d hd => by
    obtain ⟨z, hz, rfl⟩ := List.mem_map.mp hd
    obtain ⟨x, hx, rfl⟩ := List.mem_map.mp hz
    have := dl_num ok (h x hx)
    exact fine_int this.1 this.2
  rw [List.length_map, List.length_map] at q
  exact q
/-! ### the needs at the places -/
def needOf (B : Bk) (p : Pl) : Nd := match B.kindOf p.n with
  | some k => (k.gs.getD p.g []).getD p.j (.row "" 0 0)
  | none => .row "" 0 0
theorem needOf_at {B : Bk} (ok : BOk B) {p : Pl} {k : Kd} {gr : List Nd} {n : Nd} (hk : k ∈ B.kinds) (hn : k.name = p.n) (hg : k.gs[p.g]? = some gr) (hj : gr[p.j]? = some n) : needOf B p = n := by
  unfold needOf
  rw [← hn, kindOf_at ok hk]
  show (k.gs.getD p.g []).getD p.j (.row "" 0 0) = _
  rw [getD_of hg, getD_of hj]
theorem fine_needs {B : Bk} (ok : BOk B) : (D.lst ((B.places.map (needOf B)).map Nd.d)).Fine 2000 4 := by
  have q := FineL.of (ds := (B.places.map (needOf B)).map Nd.d) (n := 6) (m := 1) fun d hd => by
    obtain ⟨z, hz, rfl⟩ := List.mem_map.mp hd
    obtain ⟨p, hp, rfl⟩ := List.mem_map.mp hz
    obtain ⟨k, gr, n, hk, hn, hg, hj⟩ := places_at p hp
    rw [needOf_at ok hk hn hg hj]
    exact Nd.fine (((ok.kinds k hk).gs gr (List.mem_of_getElem? hg)).ok n (List.mem_of_getElem? hj)) ok.rows.mem ok.names.mem
  rw [List.length_map, List.length_map] at q
  have := ok.places_len
  exact q.lst.mono (by omega) (by omega)
theorem fine_asked {B : Bk} (ok : BOk B) : (D.lst [.lst (B.names.map D.str), .lst (B.places.map Pl.d), .lst (B.dead.map dgD)]).Fine 2000 6 := by
  have small : ∀ {n : Nat}, n < 1000 → (D.int (n : Int)).Fine 1 0 := fun h => fine_int (by omega) (by omega)
  have q1 := FineL.of (ds := B.names.map D.str) (n := 1) (m := 0) fun d hd => by
    obtain ⟨x, hx, rfl⟩ := List.mem_map.mp hd
    exact fine_name (ok.names.mem x hx)
  have gl : ∀ {k : Kd} {i : Nat}, k ∈ B.kinds → i < k.gs.length → i < 1000 := fun hk hi => by
    have := (ok.kinds _ hk).len
    omega
  have q2 := FineL.of (ds := B.places.map Pl.d) (n := 4) (m := 1) fun d hd => by
    obtain ⟨p, hp, rfl⟩ := List.mem_map.mp hd
    obtain ⟨k, gr, n, hk, hn, hg, hj⟩ := places_at p hp
    have l1 := (List.getElem?_eq_some_iff.mp hg).1
    have l2 := (List.getElem?_eq_some_iff.mp hj).1
    have l3 := ((ok.kinds k hk).gs gr (List.mem_of_getElem? hg)).len
    rw [show p.d = .tup [.str p.n, .int p.g, .int p.j] from rfl]
    exact (FineL.tup (.cons (fine_name (by rw [← hn]; exact ok.name_in hk)) (.cons (small (gl hk l1)) (.cons (small (by omega)) .nil)))).mono (by omega) (by omega)
  have q3 := FineL.of (ds := B.dead.map dgD) (n := 3) (m := 1) fun d hd => by
    obtain ⟨p, hp, rfl⟩ := List.mem_map.mp hd
    obtain ⟨k, hk, hn, hl⟩ := dead_in p hp
    rw [show dgD p = .tup [.str p.1, .int p.2] from rfl]
    exact (FineL.tup (.cons (fine_name (by rw [← hn]; exact ok.name_in hk)) (.cons (small (gl hk hl)) .nil))).mono (by omega) (by omega)
  rw [List.length_map] at q1 q2 q3
  have := ok.names.len
  have := ok.places_len
  have := ok.dead_len
  exact (FineL.lst (.cons q1.lst (.cons q2.lst (.cons q3.lst .nil)))).mono (by omega) (by omega)
end Gy

namespace Gy
open PySem L2 PySem.Spec PyProof.Rows
/-! ### is_book_told -/
theorem g3_mono {K : PySem.W.Frag} {i j k : Nat} : ∀ x σ' H' (A B : L2.St → Hp → Prop), (∀ σ2 H2, A σ2 H2 → B σ2 H2) → gTup K 3 (gCons (gName i) (gCons (gName j) (gCons (gName k) gNil))) x σ' H' A → gTup K 3 (gCons (gName i) (gCons (gName j) (gCons (gName k) gNil))) x σ' H' B := by
  rintro x σ' H' A B h ⟨a, xs, e1, e2, e3, y, r, e4, y2, r2, e5, y3, r3, e6, e7, q⟩
  exact ⟨a, xs, e1, e2, e3, y, r, e4, y2, r2, e5, y3, r3, e6, e7, h _ _ q⟩
theorem next_open {D : Ends} {σ : L2.St} {H : Hp} (h : D.nx σ H) : tNext D σ H := h
theorem ExtS {b : Addr} {H H' H2 : Hp} (e : Ext b H H') (s : Same H' H2) : Ext b H H2 := e.trans' (ext_same s)
theorem KD.ext {K : PySem.W.Frag} {b c : Addr} {H H' : Hp} {d : Addr} {B : Bk} (h : KD K H d B) (Bg : BagC c H b) (e : Ext b H H') : KD K H' d B := by
  obtain ⟨ks, h1, h2⟩ := h
  obtain ⟨l, hl⟩ := Bg.lst
  exact ⟨ks, e d _ (fun z => by rw [z, hl] at h1; cases h1) h1, h2.tups (Bg.tups e) (kds_flat _)⟩
theorem few_all {d : D} (h : d.few = true) : d.ok = true ∧ d.top = true ∧ d.shown.length ≤ 20000 ∧ d.depth ≤ 10 := by
  unfold D.few at h
  simp only [Bool.and_eq_true, decide_eq_true_eq] at h
  exact ⟨h.1.1, h.1.2, h.2.1, h.2.2⟩
theorem few_name {x : Str} (h : x ∈ menu) : (D.str x).few = true := by
  have q : menu.all (fun x => (D.str x).few) = true := by decide +kernel
  exact List.all_eq_true.mp q x h
theorem isS_of {K : PySem.W.Frag} {mg : Str → Option Value} {H : Hp} {v : V} {d : D} (T : TxtS K mg) (r : Rp K H v d) (h : d.top = true) : ∃ t b, TyX K H v t ∧ PySem.W.kitOne K t (.type "str") = some b ∧ ((b = true ∧ ∃ z, v = .str z) ∨ (b = false ∧ ∀ z, v ≠ .str z)) := by
  cases r with
  | non => exact ⟨_, _, .base .non, T.non, .inr ⟨rfl, fun z e => by cases e⟩⟩
  | bl b => exact ⟨_, _, .base (.bl b), T.bl, .inr ⟨rfl, fun z e => by cases e⟩⟩
  | int i => exact ⟨_, _, .base (.int i), T.int, .inr ⟨rfl, fun z e => by cases e⟩⟩
  | str x => exact ⟨_, _, .base (.str x), T.yes, .inl ⟨rfl, x, rfl⟩⟩
  | lst e _ => exact ⟨_, _, .base (.lst e), T.lst, .inr ⟨rfl, fun z e => by cases e⟩⟩
  | tup e _ => exact ⟨_, _, .base (.tup e), T.tup, .inr ⟨rfl, fun z e => by cases e⟩⟩
  | dic e _ _ => exact ⟨_, _, .base (.dK e), T.dic, .inr ⟨rfl, fun z e => by cases e⟩⟩
  | exc _ _ _ _ _ _ => cases h
/-- whether a name is a key -/
theorem KD.has {K : PySem.W.Frag} {H : Hp} {d : Addr} {B : Bk} (h : KD K H d B) (ok : BOk B) (z : Str) : ∃ o, DGet H d (.str z) o ∧ ((o.isSome = true ∧ ∃ k ∈ B.kinds, z = k.name) ∨ (o.isSome = false ∧ ∀ k ∈ B.kinds, z ≠ k.name)) := by
  by_cases hz : z ∈ B.names
  · obtain ⟨k, hk, rfl⟩ := ok.kind hz
    obtain ⟨v, hv, _⟩ := h.get ok hk
    exact ⟨_, hv, .inl ⟨rfl, k, hk, rfl⟩⟩
  · obtain ⟨ks, hd, r⟩ := h
    have l : B.names.length = ks.length := by
      unfold Bk.names
      rw [r.len, List.length_map, List.length_map]
    have q : valV (keyed B.names ks) (Sum.inr z) = none := by
      unfold valV
      rw [Option.map_eq_none_iff, List.find?_eq_none]
      intro kv hm
      have e := List.mem_map_of_mem (f := fun x : Key × V => x.1) hm
      rw [keyed_keys l] at e
      obtain ⟨n, hn, en⟩ := List.mem_map.mp e
      rw [← en]
      simp only [decide_eq_true_eq]
      intro y
      injection y with y
      rw [y] at hn
      exact hz hn
    refine ⟨none, ?_, .inr ⟨rfl, fun k hk e => hz (by rw [e]; exact List.mem_map_of_mem hk)⟩⟩
    rw [← q]
    exact DGet.k (k := Sum.inr z) hd
theorem nokind_len : (reprText "no kind").length ≤ 12 := by decide +kernel
theorem alike_nokind {K : PySem.W.Frag} {H : Hp} {t u : Addr} {x : V} {d : D} (ht : H t = some (.tup [.str "no kind", x])) (hu : H u = some (.tup [.str "no kind", x])) (r : Rp K H x d) (f : d.few = true) : AlikeX K H (.ref t) (.ref u) := by
  obtain ⟨f1, f2, f3, f4⟩ := few_all f
  refine ⟨.tup [.str "no kind", d], .tup ht (.cons (.str _) (.cons r .nil)), .tup hu (.cons (.str _) (.cons r .nil)), by simp only [D.ok, D.okAll, f1, Bool.and_self], ?_, by simp only [D.depth, D.depthAll]; omega, .inr ⟨t, u, _, _, rfl, rfl, SqT.of ht, SqT.of hu, .cons (.inl ⟨rfl, rfl⟩) (.cons r.sameV .nil)⟩⟩
  have q := tupleText_len_le (D.shownAll [.str "no kind", d])
  simp only [D.shownAll, List.map_cons, List.map_nil, List.sum_cons, List.sum_nil, List.length_cons, List.length_nil, D.shown] at q ⊢
  have := nokind_len
  rw [sizeLine_eq]
  omega
def spTold (K : PySem.W.Frag) : Sp := fun vs H Q _ => ∃ (b c p : Addr) (B : Bk), vs = [.ref b, .ref p] ∧ BagC c H b ∧ Rp K H (.ref p) B.d ∧ BOk B ∧ ∀ H', Ext b H H' → BagC c H' b → Q (.bl true) H'
section
variable {P : Program} {w : World} {K : PySem.W.Frag} {mg : Str → Option Value} {base : Heap}
end
end Gy

namespace Gy
open PySem L2 PySem.Spec PyProof.Rows
/-! ### least sets of kinds -/
def MonoR (right : List Str → List Nd → Bool) : Prop := ∀ (l m : List Str) (g : List Nd), (∀ x ∈ l, x ∈ m) → right l g = true → right m g = true
inductive LS (B : Bk) (right : List Str → List Nd → Bool) : Str → Prop
  | mk (k : Kd) (l : List Str) : k ∈ B.kinds → (∀ x ∈ l, LS B right x) → k.gs.any (right l) = true → LS B right k.name
def ClosedR (B : Bk) (right : List Str → List Nd → Bool) (l : List Str) : Prop := ∀ k ∈ B.kinds, k.gs.any (right l) = true → k.name ∈ l
theorem any_mono {right : List Str → List Nd → Bool} (m : MonoR right) {l l' : List Str} (h : ∀ x ∈ l, x ∈ l') {gs : List (List Nd)} (a : gs.any (right l) = true) : gs.any (right l') = true := by
  obtain ⟨g, hg, hr⟩ := List.any_eq_true.mp a
  exact List.any_eq_true.mpr ⟨g, hg, m l l' g h hr⟩
theorem LS.isin {B : Bk} {right : List Str → List Nd → Bool} {x : Str} (h : LS B right x) : x ∈ B.names := by
  cases h with
  | mk k l hk _ _ => exact List.mem_map_of_mem hk
theorem closed_has {B : Bk} {right : List Str → List Nd → Bool} (m : MonoR right) {l : List Str} (c : ClosedR B right l) {x : Str} (h : LS B right x) : x ∈ l := by
  induction h with
  | mk k l' hk _ a ih => exact c k hk (any_mono m ih a)
noncomputable def lsL (B : Bk) (right : List Str → List Nd → Bool) : List Str := B.names.filter fun x => @decide (LS B right x) (Classical.propDecidable _)
theorem mem_lsL {B : Bk} {right : List Str → List Nd → Bool} {x : Str} : x ∈ lsL B right ↔ LS B right x := by
  unfold lsL
  rw [List.mem_filter]
  exact ⟨fun h => @of_decide_eq_true _ (Classical.propDecidable _) h.2, fun h => ⟨h.isin, @decide_eq_true _ (Classical.propDecidable _) h⟩⟩
theorem lsL_nodup {B : Bk} {right : List Str → List Nd → Bool} (ok : BOk B) : (lsL B right).Nodup := ok.names.nd.sublist List.filter_sublist
theorem pw_sorted {l : List Str} (h : l.Pairwise fun a b => a.cps.toList ≤ b.cps.toList) : sortedS l = true := sortedS_of_pairwise l (h.imp fun {a b} q => by
  rw [ltCps_eq]
  exact decide_eq_false q)
theorem lsL_sorted {B : Bk} {right : List Str → List Nd → Bool} (ok : BOk B) : sortedS (lsL B right) = true := pw_sorted ((sorted_pw ok.names.asc).sublist List.filter_sublist)
theorem lsL_len {B : Bk} {right : List Str → List Nd → Bool} (ok : BOk B) : (lsL B right).length ≤ 15 := Nat.le_trans (List.filter_sublist).length_le ok.names.len
theorem perm_of_iff {α : Type} : ∀ {l m : List α}, l.Nodup → m.Nodup → (∀ x, x ∈ l ↔ x ∈ m) → l.Perm m
  | [], m, _, _, h => by
    have : m = [] := List.eq_nil_iff_forall_not_mem.mpr fun x hx => by have := (h x).mpr hx; cases this
    rw [this]
  | a :: l, m, nl, nm, h => by
    obtain ⟨u, v, rfl⟩ := List.append_of_mem ((h a).mp List.mem_cons_self)
    have p : (u ++ a :: v).Perm (a :: (u ++ v)) := List.perm_middle
    refine (List.Perm.cons a (perm_of_iff (List.nodup_cons.mp nl).2 (List.nodup_cons.mp (p.nodup_iff.mp nm)).2 fun x => ?_)).trans p.symm
    have na := (List.nodup_cons.mp nl).1
    have nb := (List.nodup_cons.mp (p.nodup_iff.mp nm)).1
    constructor
    · intro hx
      have q := p.mem_iff.mp ((h x).mp (List.mem_cons_of_mem _ hx))
      rcases List.mem_cons.mp q with e | q
      · rw [e] at hx
        exact absurd hx na
      · exact q
    · intro hx
      have q := (h x).mpr (p.mem_iff.mpr (List.mem_cons_of_mem _ hx))
      rcases List.mem_cons.mp q with e | q
      · rw [e] at hx
        exact absurd hx nb
      · exact q
theorem is_lsL {B : Bk} {right : List Str → List Nd → Bool} (ok : BOk B) (m : MonoR right) {l : List Str} (nd : l.Nodup) (s : ∀ x ∈ l, LS B right x) (c : ClosedR B right l) : l.Perm (lsL B right) :=
  perm_of_iff nd (lsL_nodup ok) fun x => ⟨fun h => mem_lsL.mpr (s x h), fun h => closed_has m c (mem_lsL.mp h)⟩
/-! ### when a ground is right -/
def metN (B : Bk) (l : List Str) : Nd → Bool
  | .row _ _ _ => true
  | .knd n a _ _ => decide (n ∈ l) && decide (a < B.keepOf n)
def metG (B : Bk) (l : List Str) (g : List Nd) : Bool := g.all (metN B l)
def onS (st : List Str) : Nd → Bool
  | .row r _ _ => decide (r ∈ st)
  | .knd _ _ _ _ => false
def rClean (B : Bk) (st l : List Str) (g : List Nd) : Bool := metG B l g && !(g.any (onS st))
def forcedN (st cl : List Str) : Nd → Bool
  | .row r _ _ => decide (r ∈ st)
  | .knd n _ _ _ => !(decide (n ∈ cl))
def places (f : Nd → Bool) (g : List Nd) : List Nat := (List.range g.length).filter fun i => f (g.getD i (.row "" 0 0))
def oldN (l : List Str) : Nd → Bool
  | .row _ _ _ => false
  | .knd n _ _ _ => decide (n ∈ l)
def rAble (B : Bk) (be cl st l : List Str) (g : List Nd) : Bool := metG B be g && (decide (places (forcedN st cl) g ≠ []) || g.any (oldN l))
theorem metN_mono {B : Bk} {l m : List Str} (h : ∀ x ∈ l, x ∈ m) {n : Nd} (q : metN B l n = true) : metN B m n = true := by
  cases n with
  | row r t x => rfl
  | knd n a t x =>
    simp only [metN, Bool.and_eq_true, decide_eq_true_eq] at q ⊢
    exact ⟨h n q.1, q.2⟩
theorem metG_mono (B : Bk) : MonoR (metG B) := fun l m g h q => by
  unfold metG at q ⊢
  rw [List.all_eq_true] at q ⊢
  exact fun x hx => metN_mono h (q x hx)
theorem clean_mono (B : Bk) (st : List Str) : MonoR (rClean B st) := fun l m g h q => by
  unfold rClean at q ⊢
  rw [Bool.and_eq_true] at q ⊢
  exact ⟨metG_mono B l m g h q.1, q.2⟩
theorem able_mono (B : Bk) (be cl st : List Str) : MonoR (rAble B be cl st) := fun l m g h q => by
  unfold rAble at q ⊢
  simp only [Bool.and_eq_true, Bool.or_eq_true] at q ⊢
  refine ⟨q.1, q.2.imp id fun z => ?_⟩
  obtain ⟨x, hx, hq⟩ := List.any_eq_true.mp z
  refine List.any_eq_true.mpr ⟨x, hx, ?_⟩
  cases x with
  | row r t y => cases hq
  | knd n a t y =>
    simp only [oldN, decide_eq_true_eq] at hq ⊢
    exact h n hq
def SameL (l m : List Str) : Prop := ∀ x, x ∈ l ↔ x ∈ m
theorem SameL.perm {l m : List Str} (h : l.Perm m) : SameL l m := fun x => h.mem_iff
theorem SameL.dec {l m : List Str} (h : SameL l m) (x : Str) : decide (x ∈ l) = decide (x ∈ m) := decide_eq_decide.mpr (h x)
theorem metG_same {B : Bk} {l m : List Str} (h : SameL l m) : metG B l = metG B m := by
  funext g
  unfold metG
  congr 1
  funext n
  cases n with
  | row r t x => rfl
  | knd n a t x => simp only [metN, h.dec]
theorem forcedN_same {st l m : List Str} (h : SameL l m) : forcedN st l = forcedN st m := by
  funext n
  cases n with
  | row r t x => rfl
  | knd n a t x => simp only [forcedN, h.dec]
theorem oldN_same {l m : List Str} (h : SameL l m) : oldN l = oldN m := by
  funext n
  cases n with
  | row r t x => rfl
  | knd n a t x => simp only [oldN, h.dec]
/-! ### bearing, clean, able kinds -/
noncomputable def Bk.bear (B : Bk) : List Str := lsL B (metG B)
noncomputable def Bk.clean (B : Bk) (st : List Str) : List Str := lsL B (rClean B st)
noncomputable def Bk.able (B : Bk) (st : List Str) : List Str := lsL B (rAble B B.bear (B.clean st) st)
/-- the law's word for clean: live, its kinds found, no struck row -/
def allIn (l : List Str) : Nd → Bool
  | .row _ _ _ => true
  | .knd n _ _ _ => decide (n ∈ l)
def rClean2 (B : Bk) (be st l : List Str) (g : List Nd) : Bool := metG B be g && (g.all (allIn l) && !(g.any (onS st)))
theorem clean2_mono (B : Bk) (be st : List Str) : MonoR (rClean2 B be st) := fun l m g h q => by
  unfold rClean2 at q ⊢
  simp only [Bool.and_eq_true] at q ⊢
  refine ⟨q.1, List.all_eq_true.mpr fun x hx => ?_, q.2.2⟩
  have z := List.all_eq_true.mp q.2.1 x hx
  cases x with
  | row r t y => rfl
  | knd n a t y =>
    simp only [allIn, decide_eq_true_eq] at z ⊢
    exact h n z
theorem metG_and {B : Bk} {be l : List Str} {g : List Nd} (h1 : metG B be g = true) (h2 : g.all (allIn l) = true) : metG B l g = true := by
  unfold metG at h1 ⊢
  rw [List.all_eq_true] at h1 h2 ⊢
  intro x hx
  have q1 := h1 x hx
  have q2 := h2 x hx
  cases x with
  | row r t y => rfl
  | knd n a t y =>
    simp only [metN, allIn, Bool.and_eq_true, decide_eq_true_eq] at q1 q2 ⊢
    exact ⟨q2, q1.2⟩
theorem metG_in {B : Bk} {l : List Str} {g : List Nd} (h1 : metG B l g = true) : g.all (allIn l) = true := by
  unfold metG at h1
  rw [List.all_eq_true] at h1 ⊢
  intro x hx
  have q1 := h1 x hx
  cases x with
  | row r t y => rfl
  | knd n a t y =>
    simp only [metN, allIn, Bool.and_eq_true, decide_eq_true_eq] at q1 ⊢
    exact q1.1
theorem clean_bear {B : Bk} {st : List Str} {x : Str} (h : LS B (rClean B st) x) : LS B (metG B) x := by
  induction h with
  | mk k l hk _ a ih =>
    refine .mk k l hk ih ?_
    obtain ⟨g, hg, hr⟩ := List.any_eq_true.mp a
    refine List.any_eq_true.mpr ⟨g, hg, ?_⟩
    unfold rClean at hr
    rw [Bool.and_eq_true] at hr
    exact hr.1
theorem clean_iff {B : Bk} {st : List Str} {x : Str} : LS B (rClean B st) x ↔ LS B (rClean2 B B.bear st) x := by
  constructor
  · intro h
    induction h with
    | mk k l hk hl a ih =>
      refine .mk k l hk ih ?_
      obtain ⟨g, hg, hr⟩ := List.any_eq_true.mp a
      refine List.any_eq_true.mpr ⟨g, hg, ?_⟩
      unfold rClean at hr
      unfold rClean2
      simp only [Bool.and_eq_true] at hr ⊢
      exact ⟨metG_mono B l B.bear g (fun x hx => mem_lsL.mpr (clean_bear (hl x hx))) hr.1, metG_in hr.1, hr.2⟩
  · intro h
    induction h with
    | mk k l hk hl a ih =>
      refine .mk k l hk ih ?_
      obtain ⟨g, hg, hr⟩ := List.any_eq_true.mp a
      refine List.any_eq_true.mpr ⟨g, hg, ?_⟩
      unfold rClean2 at hr
      unfold rClean
      simp only [Bool.and_eq_true] at hr ⊢
      exact ⟨metG_and hr.1 hr.2.1, hr.2.2⟩
theorem clean_eq (B : Bk) (st : List Str) : lsL B (rClean2 B B.bear st) = B.clean st := by
  unfold Bk.clean lsL
  refine List.filter_congr fun x _ => ?_
  exact congrArg (fun p => @decide p (Classical.propDecidable p)) (propext clean_iff.symm)
end Gy

namespace Gy
open PySem L2 PySem.Spec PyProof.Rows
/-! ### a text in a list or tuple of texts -/
theorem inV_strs (n : Str) : ∀ ss : List Str, inV (.str n) (ss.map V.str) = decide (n ∈ ss)
  | [] => rfl
  | s :: ss => by
    have ih := inV_strs n ss
    unfold inV at ih ⊢
    rw [List.map_cons, List.any_cons, ih]
    show ((s == n) || decide (n ∈ ss)) = _
    by_cases e : s = n
    · subst e
      simp
    · rw [beq_eq_false_iff_ne.mpr e, Bool.false_or]
      exact decide_eq_decide.mpr ⟨fun h => List.mem_cons_of_mem _ h, fun h => (List.mem_cons.mp h).elim (fun z => absurd z.symm e) id⟩
theorem flat_of_strs (ss : List Str) : (ss.map V.str).all flatV = true := List.all_eq_true.mpr fun v hv => by
  obtain ⟨x, _, rfl⟩ := List.mem_map.mp hv
  rfl
theorem in_read {K : PySem.W.Frag} {neg : Bool} {n : Str} {a : Addr} {ss : List Str} {H : Hp} {Q : VK} (h : SqQ H a (ss.map V.str)) (q : Q (.bl (if neg then !decide (n ∈ ss) else decide (n ∈ ss))) H) : rIn K neg (.str n) (.ref a) H Q := by
  refine ⟨a, _, rfl, h.seq, rfl, flat_of_strs ss, ?_⟩
  rw [inV_strs]
  exact q
theorem SqQ.same {H H' : Hp} {a : Addr} {xs : List V} (h : SqQ H a xs) (s : Same H H') : SqQ H' a xs := h.imp (s _ _) (s _ _)
def Nd.word : Nd → Str
  | .row _ _ _ => "row"
  | .knd _ _ _ _ => "kind"
def Nd.nm : Nd → Str
  | .row r _ _ => r
  | .knd n _ _ _ => n
theorem vs0 (n : Nd) : n.vs[0]? = some (.str n.word) := by cases n <;> rfl
theorem vs1 (n : Nd) : n.vs[1]? = some (.str n.nm) := by cases n <;> rfl
theorem isrow (n : Nd) : decide (V.str n.word = V.str "row") = (match n with | .row _ _ _ => true | .knd _ _ _ _ => false) := by
  cases n with
  | row r t m => exact decide_eq_true rfl
  | knd n a t m => exact decide_eq_false (by show ¬ V.str ("kind" : Str) = V.str "row"; decide +kernel)
theorem iskind (n : Nd) : decide (V.str n.word = V.str "kind") = (match n with | .row _ _ _ => false | .knd _ _ _ _ => true) := by
  cases n with
  | row r t m => exact decide_eq_false (by show ¬ V.str ("row" : Str) = V.str "kind"; decide +kernel)
  | knd n a t m => exact decide_eq_true rfl
/-! ### the package: grounds_of, can_be_met, is_bearing_by, is_on_struck, is_clean_by -/
def spGrounds (K : PySem.W.Frag) : Sp := fun vs H Q _ => ∃ (p : Addr) (B : Bk) (k : Kd), vs = [.ref p, .str k.name] ∧ Rp K H (.ref p) B.d ∧ BOk B ∧ k ∈ B.kinds ∧ ∀ g gvs, H g = some (.tup gvs) → RpAll K H gvs (k.gs.map gd) → Q (.ref g) H
abbrev sMet : Stmt := top 7
def spMet (K : PySem.W.Frag) : Sp := fun vs H Q _ => ∃ (p L : Addr) (v : V) (B : Bk) (n : Nd) (ss : List Str), vs = [.ref p, v, .ref L] ∧ Rp K H (.ref p) B.d ∧ BOk B ∧ Rp K H v n.d ∧ n.ok B.rows B.names ∧ SqQ H L (ss.map V.str) ∧ Q (.bl (metN B ss n)) H
abbrev sBear : Stmt := top 9
def spBear (K : PySem.W.Frag) : Sp := fun vs H Q _ => ∃ (p L : Addr) (v u : V) (B : Bk) (g : List Nd) (ss : List Str), vs = [.ref p, v, .ref L, u] ∧ Rp K H (.ref p) B.d ∧ BOk B ∧ Rp K H v (gd g) ∧ GOk B.rows B.names 3 g ∧ SqQ H L (ss.map V.str) ∧ ∀ H', Same H H' → Q (.bl (metG B ss g)) H'
abbrev sOnS : Stmt := top 11
def spOnS (K : PySem.W.Frag) : Sp := fun vs H Q _ => ∃ (v : V) (S : Addr) (n : Nd) (st : List Str), vs = [v, .ref S] ∧ Rp K H v n.d ∧ SqQ H S (st.map V.str) ∧ Q (.bl (onS st n)) H
abbrev sClean : Stmt := top 12
def spClean (K : PySem.W.Frag) : Sp := fun vs H Q _ => ∃ (p L S : Addr) (v : V) (B : Bk) (g : List Nd) (ss st : List Str), vs = [.ref p, v, .ref L, .ref S] ∧ Rp K H (.ref p) B.d ∧ BOk B ∧ Rp K H v (gd g) ∧ GOk B.rows B.names 3 g ∧ SqQ H L (ss.map V.str) ∧ SqQ H S (st.map V.str) ∧ ∀ H', Same H H' → Q (.bl (rClean B st ss g)) H'
section
variable {P : Program} {w : World} {K : PySem.W.Frag} {mg : Str → Option Value} {base : Heap}
theorem scMet : FnScope ["rulebook", "need", "names"] ["rulebook", "need", "names"] (defScope sMet) := ⟨rfl, rfl, rfl, by decide +kernel, rfl, by decide +kernel, by decide +kernel⟩
theorem ok_met {f CN : Addr} {fd : FuncData} {tk : Tok} (F : Fun K "can_be_met" "can_be_met" sMet f fd) (gR : mg "ROW" = some (.str "row" tk)) (CK : CalX P w K mg base 3 "kind_of" ["rulebook", "name"] (spKof K CN)) : FnOk P w K mg base CX0 4 f fd ["rulebook", "need", "names"] (spMet K) := by
  refine F.ok scMet (fun vs H Q E h => ?_) (fun cdv A outer s H vs Q E hr h => ?_)
  · obtain ⟨p, L, v, B, n, ss, rfl, _⟩ := h
    rfl
  · obtain ⟨p, L, v, B, n, ss, rfl, rp, ok, rn, okn, hL, kQ⟩ := h
    refine ⟨_, pss_cons (ps_if (pt_cmpR op_eq (pe_ix ix_tup (pv 1) pe_int (fun _ _ => rfl)) (pe_glob (v := .str "row") rfl gR ⟨_, rfl⟩) (nomark _)) (pss_one (ps_ret pe_bl)) pss_nil)
      (pss_one (ps_ret (pe_and (pe_cmpR op_in_seq (pe_ix ix_tup (pv 1) pe_int (fun _ _ => rfl)) (pv 2) (by rfl)) (pe_one (pe_cmpR op_lt (pe_ix ix_tup (pv 1) pe_int (fun _ _ => rfl)) (pe_ix ix_tup (pe_calX CK hr rfl (pa_cons (pv 0) (pa_cons (pe_ix ix_tup (pv 1) pe_int (fun _ _ => rfl)) pa_nil))) pe_int (fun _ _ => rfl)) (nomark _)))))), ?_⟩
    obtain ⟨u, rfl, hu⟩ := nd_rp rn
    refine ⟨_, rfl, u, _, 0, .str n.word, rfl, rfl, SqT.of hu, atI_nat (j := 0) (vs0 n), rfl, _, rfl, ?_⟩
    rw [isrow]
    cases n with
    | row r t m => exact iteT kQ
    | knd n a t m =>
      refine iteF ?_
      obtain ⟨k, hk, rfl⟩ := ok.kind okn.1
      refine ⟨_, rfl, u, _, 1, .str k.name, rfl, rfl, SqT.of hu, atI_nat (j := 1) rfl, _, rfl, in_read hL ⟨_, rfl, ?_⟩⟩
      have kQ' : Q (.bl (decide (k.name ∈ ss) && decide (a < B.keepOf k.name))) H := kQ
      rw [keepOf_at ok hk] at kQ'
      refine ite2 (fun e => ?_) fun e => ?_
      · have e' : decide (k.name ∈ ss) = true := e
        rw [e', Bool.true_and] at kQ'
        refine ⟨_, rfl, u, _, 2, .int a, rfl, rfl, SqT.of hu, atI_nat (j := 2) rfl, _, rfl, _, rfl, u, _, 1, .str k.name, rfl, rfl, SqT.of hu, atI_nat (j := 1) rfl, p, .str k.name, B, rfl, rp, ⟨.str k.name, .str _, rfl⟩, fun a' k' hk' e ra => ?_, fun no => absurd rfl (no k hk)⟩
        have ek : k = k' := ok.inj hk hk' (by injection e)
        subst ek
        obtain ⟨a'', gp, gvs, ea, ha, hgp, rg⟩ := Kd.rp ra
        cases ea
        exact ⟨_, _, 1, .int k.keep, rfl, rfl, SqT.of ha, atI_nat (j := 1) rfl, _, _, rfl, rfl, kQ'⟩
      · have e' : decide (k.name ∈ ss) = false := by
          cases h : decide (k.name ∈ ss) with
          | false => rfl
          | true => exact absurd h e
        rw [e', Bool.false_and] at kQ'
        exact kQ'
theorem scBear : FnScope ["rulebook", "ground", "found", "given", "need"] ["rulebook", "ground", "found", "given"] (defScope sBear) := ⟨rfl, rfl, rfl, by decide +kernel, rfl, by decide +kernel, by decide +kernel⟩
theorem ok_bear {f : Addr} {fd : FuncData} (F : Fun K "is_bearing_by" "is_bearing_by" sBear f fd) (za : mg "all" = none) (CM : Cal P w K mg base 4 "can_be_met" ["rulebook", "need", "names"] (spMet K)) : FnOk P w K mg base CX0 5 f fd ["rulebook", "ground", "found", "given"] (spBear K) := by
  refine F.ok scBear (fun vs H Q E h => ?_) (fun cdv A outer s H vs Q E hr h => ?_)
  · obtain ⟨p, L, v, u, B, g, ss, rfl, _⟩ := h
    rfl
  · obtain ⟨p, L, v, u, B, g, ss, rfl, rp, ok, rg, okg, hL, kQ⟩ := h
    have nd := scBear.nd
    refine ⟨_, pss_one (ps_ret (pe_callB (cr_all rfl) (by rfl) za (by decide +kernel) (pa_cons (pe_lc (own := [("need", 4)]) (g := gName 4) (tt := tYes) (te := tCall (spMet K) [] E0 (tCons (tVar 0) (tCons (tVar 4) (tCons (tVar 2) tNil)))) rfl nd (pi_tup (pv 1))
      (blkOk_by (own := [("need", 4)]) (N := ["rulebook", "ground", "found", "given", "need"]) (sc := defScope sBear) (by decide +kernel)) (fun _ _ _ _ _ => pg_name (i := 4) nd rfl (Or.inl rfl)) (fun _ _ _ _ _ => pts_nil) (fun _ _ _ _ _ => pe_cal CM hr rfl (pa_cons (pv 0) (pa_cons (pv 4) (pa_cons (pv 2) pa_nil))))) pa_nil))), ?_⟩
    obtain ⟨ga, nvs, rfl, hga, rn⟩ := gd_rp rg
    have ln : nvs.length = g.length := by rw [rn.len, List.length_map]
    have l3 := okg.len
    refine ⟨_, rfl, ga, rfl, ⟨_, SqT.of hga⟩, fun Dx nD => ?_⟩
    refine lc_map (K := K) (walk_tup (xs := nvs)) ((g.map (metN B ss)).map D.bl) (by rw [List.length_map, List.length_map, ln]) (bl_flat _) nD (by omega) (fun H' s => SqT.of (s _ _ hga)) ?_ ?_ gName_mono
    · rintro m d x H4 H5 Q' hm hd s4 ⟨rfl, hx⟩ kk
      obtain ⟨n, hn, rx⟩ := at_of rn hx
      have ed : d = .bl (metN B ss n) := by
        rw [List.map_map, List.getElem?_map, hn] at hd
        exact (Option.some.inj hd).symm
      subst ed
      exact ⟨rfl, _, rfl, _, rfl, _, rfl, p, L, x, B, n, ss, rfl, rp.same s4, ok, rx.same s4, okg.ok n (List.mem_of_getElem? hn), hL.same s4, kk _ _ (Same.refl _) (.bl _)⟩
    · intro H4 zs s4 hD r
      have e := rp_bls r
      subst e
      refine ⟨Dx, g.map (metN B ss), rfl, SqL.of hD, ?_⟩
      rw [List.all_map]
      exact kQ H4 s4
theorem scOnS : FnScope ["need", "struck"] ["need", "struck"] (defScope sOnS) := ⟨rfl, rfl, rfl, by decide +kernel, rfl, by decide +kernel, by decide +kernel⟩
theorem ok_onS {f : Addr} {fd : FuncData} {tk : Tok} (F : Fun K "is_on_struck" "is_on_struck" sOnS f fd) (gR : mg "ROW" = some (.str "row" tk)) : FnOk P w K mg base CX0 1 f fd ["need", "struck"] (spOnS K) := by
  refine F.ok scOnS (fun vs H Q E h => ?_) (fun cdv A outer s H vs Q E hr h => ?_)
  · obtain ⟨v, S, n, st, rfl, _⟩ := h
    rfl
  · obtain ⟨v, S, n, st, rfl, rn, hS, kQ⟩ := h
    refine ⟨_, pss_one (ps_ret (pe_and (pe_cmpR op_eq (pe_ix ix_tup (pv 0) pe_int (fun _ _ => rfl)) (pe_glob (v := .str "row") rfl gR ⟨_, rfl⟩) (nomark _)) (pe_one (pe_cmpR op_in_seq (pe_ix ix_tup (pv 0) pe_int (fun _ _ => rfl)) (pv 1) (by rfl))))), ?_⟩
    obtain ⟨u, rfl, hu⟩ := nd_rp rn
    refine ⟨_, rfl, u, _, 0, .str n.word, rfl, rfl, SqT.of hu, atI_nat (j := 0) (vs0 n), rfl, _, rfl, ?_⟩
    rw [isrow]
    cases n with
    | row r t m => exact iteT ⟨_, rfl, u, _, 1, .str r, rfl, rfl, SqT.of hu, atI_nat (j := 1) rfl, _, rfl, in_read hS kQ⟩
    | knd n a t m => exact iteF kQ
theorem scClean : FnScope ["rulebook", "ground", "found", "struck", "need"] ["rulebook", "ground", "found", "struck"] (defScope sClean) := ⟨rfl, rfl, rfl, by decide +kernel, rfl, by decide +kernel, by decide +kernel⟩
theorem ok_clean {f : Addr} {fd : FuncData} (F : Fun K "is_clean_by" "is_clean_by" sClean f fd) (za : mg "any" = none) (CB : Cal P w K mg base 5 "is_bearing_by" ["rulebook", "ground", "found", "given"] (spBear K)) (CO : Cal P w K mg base 1 "is_on_struck" ["need", "struck"] (spOnS K)) : FnOk P w K mg base CX0 6 f fd ["rulebook", "ground", "found", "struck"] (spClean K) := by
  refine F.ok scClean (fun vs H Q E h => ?_) (fun cdv A outer s H vs Q E hr h => ?_)
  · obtain ⟨p, L, S, v, B, g, ss, st, rfl, _⟩ := h
    rfl
  · obtain ⟨p, L, S, v, B, g, ss, st, rfl, rp, ok, rg, okg, hL, hS, kQ⟩ := h
    have nd := scClean.nd
    have hr1 := hr.mono (by decide : 1 ≤ 5)
    refine ⟨_, pss_one (ps_ret (pe_and (pe_cal CB hr rfl (pa_cons (pv 0) (pa_cons (pv 1) (pa_cons (pv 2) (pa_cons pe_non pa_nil))))) (pe_one (pe_not (pe_callB (cr_any rfl) (by rfl) za PyProof.Rows.boot_any (pa_cons (pe_lc (own := [("need", 4)]) (g := gName 4) (tt := tYes) (te := tCall (spOnS K) [] E0 (tCons (tVar 4) (tCons (tVar 3) tNil))) rfl nd (pi_tup (pv 1))
      (blkOk_by (own := [("need", 4)]) (N := ["rulebook", "ground", "found", "struck", "need"]) (sc := defScope sClean) (by decide +kernel)) (fun _ _ _ _ _ => pg_name (i := 4) nd rfl (Or.inl rfl)) (fun _ _ _ _ _ => pts_nil) (fun _ _ _ _ _ => pe_cal CO hr1 rfl (pa_cons (pv 4) (pa_cons (pv 3) pa_nil)))) pa_nil)))))), ?_⟩
    obtain ⟨ga, nvs, rfl, hga, rn⟩ := gd_rp rg
    have ln : nvs.length = g.length := by rw [rn.len, List.length_map]
    have l3 := okg.len
    refine ⟨_, rfl, _, rfl, _, rfl, p, L, .ref ga, .non, B, g, ss, rfl, rp, ok, rg, okg, hL, fun H1 s1 => ⟨_, rfl, ite2 (fun e => ?_) fun e => ?_⟩⟩
    · have hga1 := s1 _ _ hga
      refine ⟨_, rfl, ga, rfl, ⟨_, SqT.of hga1⟩, fun Dx nD => ?_⟩
      refine lc_map (K := K) (walk_tup (xs := nvs)) ((g.map (onS st)).map D.bl) (by rw [List.length_map, List.length_map, ln]) (bl_flat _) nD (by omega) (fun H' s => SqT.of (s _ _ hga1)) ?_ ?_ gName_mono
      · rintro m d x H4 H5 Q' hm hd s4 ⟨rfl, hx⟩ kk
        obtain ⟨n, hn, rx⟩ := at_of rn hx
        have ed : d = .bl (onS st n) := by
          rw [List.map_map, List.getElem?_map, hn] at hd
          exact (Option.some.inj hd).symm
        subst ed
        exact ⟨rfl, _, rfl, _, rfl, x, S, n, st, rfl, rx.same (s1.trans s4), hS.same (s1.trans s4), kk _ _ (Same.refl _) (.bl _)⟩
      · intro H4 zs s4 hD r
        have e' := rp_bls r
        subst e'
        refine ⟨Dx, g.map (onS st), rfl, SqL.of hD, _, rfl, ?_⟩
        rw [List.any_map]
        have q := kQ H4 (s1.trans s4)
        unfold rClean at q
        rw [e, Bool.true_and] at q
        exact q
    · have q := kQ H1 s1
      unfold rClean at q
      have e' : metG B ss g = false := by
        cases h : metG B ss g with
        | false => rfl
        | true => exact absurd h e
      rw [e', Bool.false_and] at q
      exact q
end
end Gy

namespace Gy
open PySem L2 PySem.Spec PyProof.Rows
/-! ### forced_places, is_able_by, grown_kinds -/
theorem rp_nats {K : PySem.W.Frag} {H : Hp} : ∀ {is : List Nat} {xs : List V}, RpAll K H xs (is.map fun i : Nat => D.int i) → xs = is.map fun i : Nat => V.int i
  | [], _, .nil => rfl
  | i :: is, _, .cons r rs => by
    cases r
    rw [rp_nats rs]
    rfl
theorem rp_of_nats {K : PySem.W.Frag} {H : Hp} : ∀ (is : List Nat), RpAll K H (is.map fun i : Nat => V.int i) (is.map fun i : Nat => D.int i)
  | [] => .nil
  | i :: is => .cons (.int _) (rp_of_nats is)
theorem nat_flat : ∀ is : List Nat, D.flatAll (is.map fun i : Nat => D.int i) = true
  | [] => rfl
  | i :: is => by simp only [List.map_cons, D.flatAll, D.flat, nat_flat is, Bool.and_self]
theorem nats_dp {K : PySem.W.Frag} {H : Hp} {a : Addr} {is : List Nat} (h : H a = some (.lst (is.map fun i : Nat => V.int i))) : Dp K H (.ref a) (.list (D.pyAll (is.map fun i : Nat => D.int i))) ∧ SeqAt.shaped (.list (D.pyAll (is.map fun i : Nat => D.int i))) = true ∧ (!PyData.eqv (.list (D.pyAll (is.map fun i : Nat => D.int i))) (.list [])) = decide (is ≠ []) := by
  have pl : D.plainAll (is.map fun i : Nat => D.int i) = true := flat_plainAll _ (nat_flat is)
  refine ⟨.lst (SqL.of h) ((rp_of_nats is).dp pl), ?_, ?_⟩
  · have q : PyData.canLayAll0 (D.pyAll (is.map fun i : Nat => D.int i)) = true ∧ PyData.depthAll (D.pyAll (is.map fun i : Nat => D.int i)) = 0 := by
      clear h pl
      induction is with
      | nil => exact ⟨rfl, rfl⟩
      | cons i is ih => exact ⟨by simp only [List.map_cons, D.pyAll, D.py, PyData.canLayAll0, PyData.canLay0, ih.1, Bool.and_self], by simp only [List.map_cons, D.pyAll, D.py, PyData.depthAll, PyData.depth, ih.2]; rfl⟩
    unfold SeqAt.shaped
    simp only [PyData.canLay0, PyData.depth, q.1, q.2, Bool.true_and]
    decide
  · cases is with
    | nil => rfl
    | cons i is =>
      simp only [List.map_cons, D.pyAll, PyData.eqv, PyData.eqvAll]
      rfl
theorem strs_dp {K : PySem.W.Frag} {H : Hp} {a : Addr} {ss : List Str} (h : H a = some (.lst (ss.map V.str))) (hm : ∀ x ∈ ss, x ∈ menu) : Dp K H (.ref a) (.list (D.pyAll (ss.map D.str))) ∧ SeqAt.shaped (.list (D.pyAll (ss.map D.str))) = true ∧ (!PyData.eqv (.list (D.pyAll (ss.map D.str))) (.list [])) = decide (ss ≠ []) := by
  have f := (FineL.of (ds := ss.map D.str) (n := 1) (m := 0) fun d hd => by
    obtain ⟨x, hx, rfl⟩ := List.mem_map.mp hd
    exact fine_name (hm x hx)).lst
  obtain ⟨f1, f2, _⟩ := f.shaped (by decide)
  refine ⟨(Rp.lst h (rp_of_strs ss)).dp f1, f2, ?_⟩
  cases ss with
  | nil => rfl
  | cons i is =>
    simp only [List.map_cons, D.pyAll, PyData.eqv, PyData.eqvAll]
    rfl
abbrev sForced : Stmt := top 14
def spForced (K : PySem.W.Frag) : Sp := fun vs H Q _ => ∃ (v : V) (S C : Addr) (g : List Nd) (st cl : List Str), vs = [v, .ref S, .ref C] ∧ Rp K H v (gd g) ∧ g.length ≤ 3 ∧ SqQ H S (st.map V.str) ∧ SqQ H C (cl.map V.str) ∧
  ∀ l H', Same H H' → H l = none → H' l = some (.lst ((places (forcedN st cl) g).map fun i : Nat => V.int i)) → Q (.ref l) H'
abbrev sAble : Stmt := top 15
def spAble (K : PySem.W.Frag) : Sp := fun vs H Q _ => ∃ (p L G S C E : Addr) (v : V) (B : Bk) (g : List Nd) (ss st cl be : List Str), vs = [.ref p, v, .ref L, .ref G] ∧ Rp K H (.ref p) B.d ∧ BOk B ∧ Rp K H v (gd g) ∧ GOk B.rows B.names 3 g ∧ SqQ H L (ss.map V.str) ∧
  H G = some (.tup [.ref S, .ref C, .ref E]) ∧ SqQ H S (st.map V.str) ∧ SqQ H C (cl.map V.str) ∧ SqQ H E (be.map V.str) ∧ ∀ H', Same H H' → Q (.bl (rAble B be cl st ss g)) H'
theorem places_succ (f : Nd → Bool) (g : List Nd) (j : Nat) : (List.range (j + 1)).filter (fun i => f (g.getD i (.row "" 0 0))) = (List.range j).filter (fun i => f (g.getD i (.row "" 0 0))) ++ (if f (g.getD j (.row "" 0 0)) = true then [j] else []) := by
  rw [List.range_succ, List.filter_append, List.filter_cons, List.filter_nil]
abbrev ttForced (K : PySem.W.Frag) : TT := tOr (tB (tCall (spOnS K) [] E0 (tCons (tVar 5) (tCons (tVar 1) tNil)))) (tAnd (tTest (tOp rNe (tOp (rIxT K) (tVar 5) (tC (.int 0))) (tC (.str "row")))) (tTest (tOp (rIn K true) (tOp (rIxT K) (tVar 5) (tC (.int 1))) (tVar 2))))
theorem forced_read {K : PySem.W.Frag} {σ : L2.St} {H : Hp} {x : V} {S C : Addr} {n : Nd} {st cl : List Str} {Q : Bool → Hp → Prop} (h5 : σ[5]? = some (some x)) (h1 : σ[1]? = some (some (.ref S))) (h2 : σ[2]? = some (some (.ref C))) (rn : Rp K H x n.d) (hS : SqQ H S (st.map V.str)) (hC : SqQ H C (cl.map V.str)) (q : Q (forcedN st cl n) H) : ttForced K σ H Q := by
  refine ⟨_, h5, _, h1, x, S, n, st, rfl, rn, hS, onS st n, rfl, ?_⟩
  obtain ⟨u, rfl, hu⟩ := nd_rp rn
  cases n with
  | row r t m =>
    refine ite2 (fun e => ?_) fun e => ?_
    · have e' : forcedN st cl (.row r t m) = true := e
      rw [e'] at q
      exact q
    · refine ⟨_, h5, u, _, 0, .str "row", rfl, rfl, SqT.of hu, atI_nat (j := 0) rfl, rfl, _, rfl, ?_⟩
      have z : (!decide (V.str "row" = V.str "row")) = false := by decide +kernel
      rw [z]
      have e' : forcedN st cl (.row r t m) = false := by
        cases h : forcedN st cl (.row r t m) with
        | false => rfl
        | true => exact absurd h e
      rw [e'] at q
      exact iteF q
  | knd n a t m =>
    refine iteF ⟨_, h5, u, _, 0, .str "kind", rfl, rfl, SqT.of hu, atI_nat (j := 0) rfl, rfl, _, rfl, ?_⟩
    have z : (!decide (V.str "kind" = V.str "row")) = true := by decide +kernel
    rw [z]
    exact iteT ⟨_, h5, u, _, 1, .str n, rfl, rfl, SqT.of hu, atI_nat (j := 1) rfl, _, h2, in_read hC ⟨_, rfl, q⟩⟩
section
variable {P : Program} {w : World} {K : PySem.W.Frag} {mg : Str → Option Value} {base : Heap}
theorem scForced : FnScope ["ground", "struck", "clean", "found", "place", "need"] ["ground", "struck", "clean"] (defScope sForced) := ⟨rfl, rfl, rfl, by decide +kernel, rfl, by decide +kernel, by decide +kernel⟩
theorem ok_forced {f : Addr} {fd : FuncData} {tk : Tok} (F : Fun K "forced_places" "forced_places" sForced f fd) (gR : mg "ROW" = some (.str "row" tk)) (ze : mg "enumerate" = none) (CO : Cal P w K mg base 1 "is_on_struck" ["need", "struck"] (spOnS K)) : FnOk P w K mg base CX0 2 f fd ["ground", "struck", "clean"] (spForced K) := by
  refine F.ok scForced (fun vs H Q E h => ?_) (fun cdv A outer s H vs Q E hr h => ?_)
  · obtain ⟨v, S, C, g, st, cl, rfl, _⟩ := h
    rfl
  · obtain ⟨v, S, C, g, st, cl, rfl, rg, l3, hS, hC, kQ⟩ := h
    have nd := scForced.nd
    refine ⟨_, pss_cons (ps_set (i := 3) nd rfl (Or.inl rfl) (pe_lst pa_nil))
      (pss_cons (ps_for PassesOwn.never rfl (pi_enumT (by rfl) ze (pa_cons (pv 0) pa_nil)) (pg_tup rfl (pgs_cons (pg_name (i := 4) nd rfl (Or.inl rfl)) (pgs_cons (pg_name (i := 5) nd rfl (Or.inl rfl)) pgs_nil)))
        (pss_one (ps_if (PW.pt (pw_or (pt_val (pe_cal CO hr rfl (pa_cons (pv 5) (pa_cons (pv 1) pa_nil)))) (pw_or1 (PW.pt (pw_and (pt_cmpR op_ne (pe_ix ix_tup (pv 5) pe_int (fun _ _ => rfl)) (pe_glob (v := .str "row") rfl gR ⟨_, rfl⟩) (nomark _)) (pw_and1 (pt_cmpR op_notIn_seq (pe_ix ix_tup (pv 5) pe_int (fun _ _ => rfl)) (pv 2) (by rfl))))))))
          (pss_one (ps_expr (by exact (pe_bm PySem.F.plainAttrs_list PySem.F.slot_list_append PySem.F.type_list_append mt_append (pv 3) (pa_cons (pv 4) pa_nil))))) pss_nil)))
      (pss_one (ps_ret (pv 3)))), ?_⟩
    obtain ⟨ga, nvs, rfl, hga, rn⟩ := gd_rp rg
    have ln : nvs.length = g.length := by rw [rn.len, List.length_map]
    refine ⟨Nat.zero_le _, fun L nL => ?_⟩
    have g0 : Grow K H (upd H L (.lst [])) L (([] : List Nat).map fun i : Nat => D.int i) := Grow.start nL
    try dsimp only
    show tSeq _ _ _ [some (.ref ga), some (.ref S), some (.ref C), some (.ref L), none, none] (upd H L (.lst []))
    refine ⟨_, rfl, ga, nvs, rfl, SqT.of (g0.same _ _ hga), for_it (walk_enumT (xs := nvs)) (fun j σ' H' => (∃ x4 x5, σ' = [some (.ref ga), some (.ref S), some (.ref C), some (.ref L), x4, x5]) ∧ Grow K H H' L (((List.range j).filter fun i => forcedN st cl (g.getD i (.row "" 0 0))).map fun i : Nat => D.int i))
      ⟨⟨_, _, rfl⟩, g0⟩ (fun j σ' H' _ z => SqT.of (z.2.same _ _ hga)) ?_ ?_⟩
    · rintro j x σ' H' H3 hj ⟨⟨x4, x5, rfl⟩, g'⟩ ⟨T, u, v, rfl, nT, rfl, hu', hv⟩
      cases hu'
      obtain ⟨n, hn, rx⟩ := at_of rn hv
      have s3 : Same H' (upd H' T (.tup [.int (j : Nat), v])) := same_new (Same.refl H') nT
      have hT : upd H' T (.tup [.int (j : Nat), v]) T = some (.tup [.int (j : Nat), v]) := upd_same
      generalize upd H' T (.tup [.int (j : Nat), v]) = H3 at s3 hT
      have g3 := g'.later (nat_flat _) s3
      refine ⟨T, _, rfl, SqT.of hT, rfl, _, _, rfl, _, _, rfl, rfl, ?_⟩
      try dsimp only
      show tIfS (ttForced K) _ _ _ [some (.ref ga), some (.ref S), some (.ref C), some (.ref L), some (.int (j : Nat)), some v] H3
      refine forced_read (x := v) (S := S) (C := C) (st := st) (cl := cl) rfl rfl rfl (rx.same g3.same) (hS.same g3.same) (hC.same g3.same) (ite2 (fun e => ?_) fun e => ?_)
      · obtain ⟨ys0, hL0, _⟩ := g3.ex
        have rj : RpAll K H3 [.int (j : Nat)] (([j] : List Nat).map fun i : Nat => D.int i) := .cons (.int _) .nil
        obtain ⟨ys, hL, ly, g4⟩ := g3.more nL (nat_flat _) (nat_flat _) rj
        have ly' : ys.length ≤ j := by
          rw [ly, List.length_map]
          have := List.length_filter_le (fun i => forcedN st cl (g.getD i (.row "" 0 0))) (List.range j)
          rw [List.length_range] at this
          exact this
        refine ⟨_, rfl, .inl ⟨rfl, _, SqL.of hL⟩, _, rfl, L, ys, .int (j : Nat), rfl, rfl, hL, by rw [sizeLine_eq]; omega, ⟨_, _, rfl⟩, ?_⟩
        rw [places_succ, getD_of hn, if_pos e, List.map_append]
        exact g4
      · refine ⟨⟨_, _, rfl⟩, ?_⟩
        rw [places_succ, getD_of hn, if_neg e, List.append_nil]
        exact g3
    · rintro σ' H' ⟨⟨x4, x5, rfl⟩, g'⟩
      obtain ⟨ys, hL, r⟩ := g'.ex
      have e := rp_nats r
      subst e
      rw [ln] at hL
      exact ⟨_, rfl, kQ L H' g'.same nL hL⟩
theorem scAble : FnScope ["rulebook", "ground", "found", "given", "struck", "clean", "bearing", "need"] ["rulebook", "ground", "found", "given"] (defScope sAble) := ⟨rfl, rfl, rfl, by decide +kernel, rfl, by decide +kernel, by decide +kernel⟩
abbrev teOld (K : PySem.W.Frag) : TE := tAndV (tOp rNe (tOp (rIxT K) (tVar 7) (tC (.int 0))) (tC (.str "row"))) (tOp (rIn K false) (tOp (rIxT K) (tVar 7) (tC (.int 1))) (tVar 2))
theorem old_read {K : PySem.W.Frag} {σ : L2.St} {H : Hp} {x : V} {L : Addr} {n : Nd} {ss : List Str} {Q : VK} (h7 : σ[7]? = some (some x)) (h2 : σ[2]? = some (some (.ref L))) (rn : Rp K H x n.d) (hL : SqQ H L (ss.map V.str)) (q : Q (.bl (oldN ss n)) H) : teOld K σ H Q := by
  obtain ⟨u, rfl, hu⟩ := nd_rp rn
  cases n with
  | row r t m =>
    refine ⟨_, h7, u, _, 0, .str "row", rfl, rfl, SqT.of hu, atI_nat (j := 0) rfl, rfl, _, rfl, ?_⟩
    have z : (!decide (V.str "row" = V.str "row")) = false := by decide +kernel
    rw [z]
    exact iteF q
  | knd n a t m =>
    refine ⟨_, h7, u, _, 0, .str "kind", rfl, rfl, SqT.of hu, atI_nat (j := 0) rfl, rfl, _, rfl, ?_⟩
    have z : (!decide (V.str "kind" = V.str "row")) = true := by decide +kernel
    rw [z]
    exact iteT ⟨_, h7, u, _, 1, .str n, rfl, rfl, SqT.of hu, atI_nat (j := 1) rfl, _, h2, in_read hL q⟩
theorem ok_able {f : Addr} {fd : FuncData} {tk : Tok} (F : Fun K "is_able_by" "is_able_by" sAble f fd) (gR : mg "ROW" = some (.str "row" tk)) (za : mg "any" = none) (CB : Cal P w K mg base 5 "is_bearing_by" ["rulebook", "ground", "found", "given"] (spBear K)) (CF : Cal P w K mg base 2 "forced_places" ["ground", "struck", "clean"] (spForced K)) : FnOk P w K mg base CX0 6 f fd ["rulebook", "ground", "found", "given"] (spAble K) := by
  refine F.ok scAble (fun vs H Q E h => ?_) (fun cdv A outer s H vs Q E hr h => ?_)
  · obtain ⟨p, L, G, S, C, E', v, B, g, ss, st, cl, be, rfl, _⟩ := h
    rfl
  · obtain ⟨p, L, G, S, C, E', v, B, g, ss, st, cl, be, rfl, rp, ok, rg, okg, hL, hG, hS, hC, hE, kQ⟩ := h
    have nd := scAble.nd
    have hr2 := hr.mono (by decide : 2 ≤ 5)
    have hu := hr.units
    refine ⟨_, pss_cons (ps_asg (pv 3) (pg_tup rfl (pgs_cons (pg_name (i := 4) nd rfl (Or.inl rfl)) (pgs_cons (pg_name (i := 5) nd rfl (Or.inl rfl)) (pgs_cons (pg_name (i := 6) nd rfl (Or.inl rfl)) pgs_nil)))))
      (pss_cons (ps_if (pt_not (pt_val (pe_cal CB hr rfl (pa_cons (pv 0) (pa_cons (pv 1) (pa_cons (pv 6) (pa_cons pe_non pa_nil))))))) (pss_one (ps_ret pe_bl)) pss_nil)
      (pss_one (ps_ret (pe_or (pe_cmpR (op_neD hu) (pe_cal CF hr2 rfl (pa_cons (pv 1) (pa_cons (pv 4) (pa_cons (pv 5) pa_nil)))) (pe_lst pa_nil) (nomark _))
        (pe_one (pe_callB (cr_any rfl) (by rfl) za PyProof.Rows.boot_any (pa_cons (pe_lc (own := [("need", 7)]) (g := gName 7) (tt := tYes) (te := teOld K) rfl nd (pi_tup (pv 1))
          (blkOk_by (own := [("need", 7)]) (N := ["rulebook", "ground", "found", "given", "struck", "clean", "bearing", "need"]) (sc := defScope sAble) (by decide +kernel)) (fun _ _ _ _ _ => pg_name (i := 7) nd rfl (Or.inl rfl)) (fun _ _ _ _ _ => pts_nil)
          (fun _ _ _ _ _ => pe_and (pe_cmpR op_ne (pe_ix ix_tup (pv 7) pe_int (fun _ _ => rfl)) (pe_glob (v := .str "row") rfl gR ⟨_, rfl⟩) (nomark _)) (pe_one (pe_cmpR op_in_seq (pe_ix ix_tup (pv 7) pe_int (fun _ _ => rfl)) (pv 2) (by rfl))))) pa_nil))))))), ?_⟩
    obtain ⟨ga, nvs, rfl, hga, rn⟩ := gd_rp rg
    have ln : nvs.length = g.length := by rw [rn.len, List.length_map]
    have l3 := okg.len
    refine ⟨_, rfl, G, _, rfl, SqT.of hG, rfl, _, _, rfl, _, _, rfl, _, _, rfl, rfl, ?_⟩
    try dsimp only
    show tSeq _ _ _ [some (.ref p), some (.ref ga), some (.ref L), some (.ref G), some (.ref S), some (.ref C), some (.ref E'), none] H
    refine ⟨_, rfl, _, rfl, _, rfl, p, E', .ref ga, .non, B, g, be, rfl, rp, ok, rg, okg, hE, fun H1 s1 => ⟨_, rfl, ?_⟩⟩
    cases hm : metG B be g with
    | false =>
      refine iteT ?_
      have q := kQ H1 s1
      unfold rAble at q
      rw [hm, Bool.false_and] at q
      exact q
    | true =>
      refine iteF ?_
      refine next_open ?_
      try dsimp only
      show tRet _ _ [some (.ref p), some (.ref ga), some (.ref L), some (.ref G), some (.ref S), some (.ref C), some (.ref E'), none] H1
      refine ⟨_, rfl, _, rfl, _, rfl, .ref ga, S, C, g, st, cl, rfl, rg.same s1, l3, hS.same s1, hC.same s1, fun l H2 s2 nl hl => ⟨Nat.zero_le _, fun e ne => ?_⟩⟩
      have s3 : Same H2 (upd H2 e (.lst [])) := same_new (Same.refl H2) ne
      have h3 : upd H2 e (.lst []) e = some (.lst []) := upd_same
      generalize upd H2 e (.lst []) = H3 at s3 h3
      have s13 := (s1.trans s2).trans s3
      obtain ⟨d1, d2, d3⟩ := nats_dp (K := K) (s3 _ _ hl)
      refine ⟨_, .list [], d1, .lst (SqL.of h3) .nil, d2, rfl, ?_⟩
      rw [d3]
      have hga3 := s13 _ _ hga
      refine ⟨_, rfl, ite2 (fun e' => ?_) fun e' => ?_⟩
      · have q := kQ H3 s13
        unfold rAble at q
        rw [hm, e', Bool.true_or, Bool.true_and] at q
        exact q
      · have e'' : decide (places (forcedN st cl) g ≠ []) = false := by
          cases h : decide (places (forcedN st cl) g ≠ []) with
          | false => rfl
          | true => exact absurd h e'
        refine ⟨_, rfl, ga, rfl, ⟨_, SqT.of hga3⟩, fun Dx nD => ?_⟩
        refine lc_map (K := K) (walk_tup (xs := nvs)) ((g.map (oldN ss)).map D.bl) (by rw [List.length_map, List.length_map, ln]) (bl_flat _) nD (by omega) (fun H' s => SqT.of (s _ _ hga3)) ?_ ?_ gName_mono
        · rintro m d x H4 H5 Q' hm' hd s4 ⟨rfl, hx⟩ kk
          obtain ⟨n, hn, rx⟩ := at_of rn hx
          have ed : d = .bl (oldN ss n) := by
            rw [List.map_map, List.getElem?_map, hn] at hd
            exact (Option.some.inj hd).symm
          subst ed
          exact ⟨rfl, old_read (x := x) (L := L) rfl rfl (rx.same (s13.trans s4)) (hL.same (s13.trans s4)) (kk _ _ (Same.refl _) (.bl _))⟩
        · intro H4 zs s4 hD r
          have e3 := rp_bls r
          subst e3
          refine ⟨Dx, g.map (oldN ss), rfl, SqL.of hD, ?_⟩
          rw [List.any_map]
          have q := kQ H4 (s13.trans s4)
          unfold rAble at q
          rw [hm, e'', Bool.false_or, Bool.true_and] at q
          exact q
end
end Gy

namespace Gy
open PySem L2 PySem.Spec PyProof.Rows
/-! ### grown_kinds -/
abbrev sGrown : Stmt := top 8
/-- what the def that is handed in promises of the rulebook at p -/
def spRight (K : PySem.W.Frag) (H0 : Hp) (p : Addr) (gv : V) (B : Bk) (right : List Str → List Nd → Bool) : Sp := fun vs H Q _ => ∃ (v : V) (L : Addr) (g : List Nd) (ss : List Str), vs = [.ref p, v, .ref L, gv] ∧ Same H0 H ∧ Rp K H v (gd g) ∧ GOk B.rows B.names 3 g ∧ H L = some (.lst (ss.map V.str)) ∧
  ∀ H', Same H H' → Q (.bl (right ss g)) H'
def spGrown (P : Program) (w : World) (K : PySem.W.Frag) (mg : Str → Option Value) (base : Heap) : Sp := fun vs H Q _ => ∃ (p f : Addr) (gv : V) (B : Bk) (right : List Str → List Nd → Bool), vs = [.ref p, .ref f, gv] ∧ Rp K H (.ref p) B.d ∧ BOk B ∧ PySem.W.keepIn K (.ref f) = true ∧
  FnR P w K mg base CX0 6 f (spRight K H p gv B right) ∧ ∀ t H' ss, Same H H' → H t = none → H' t = some (.tup (ss.map V.str)) → (MonoR right → ss = lsL B right) → Q (.ref t) H'
def newK (B : Bk) (right : List Str → List Nd → Bool) (l : List Str) (ks : List Kd) : List Str := (ks.filter fun k => !decide (k.name ∈ l) && k.gs.any (right l)).map Kd.name
theorem newK_succ {B : Bk} {right : List Str → List Nd → Bool} {l : List Str} {i : Nat} {k : Kd} (h : B.kinds[i]? = some k) : newK B right l (B.kinds.take (i + 1)) = newK B right l (B.kinds.take i) ++ (if (!decide (k.name ∈ l) && k.gs.any (right l)) = true then [k.name] else []) := by
  unfold newK
  rw [List.take_succ, h, List.filter_append, List.map_append]
  congr 1
  show ((List.filter _ [k]).map Kd.name) = _
  rw [List.filter_cons, List.filter_nil]
  split <;> rfl
theorem newK_in {B : Bk} {right : List Str → List Nd → Bool} {l : List Str} {x : Str} (h : x ∈ newK B right l B.kinds) : x ∉ l ∧ ∃ k ∈ B.kinds, k.name = x ∧ k.gs.any (right l) = true := by
  obtain ⟨k, hk, rfl⟩ := List.mem_map.mp h
  obtain ⟨h1, h2⟩ := List.mem_filter.mp hk
  simp only [Bool.and_eq_true, Bool.not_eq_true', decide_eq_false_iff_not] at h2
  exact ⟨h2.1, k, h1, rfl, h2.2⟩
theorem newK_nodup {B : Bk} (ok : BOk B) {right : List Str → List Nd → Bool} {l : List Str} : (newK B right l B.kinds).Nodup := ok.names.nd.sublist ((List.filter_sublist).map Kd.name)
theorem newK_nil {B : Bk} {right : List Str → List Nd → Bool} {l : List Str} (h : newK B right l B.kinds = []) : ClosedR B right l := fun k hk a => by
  by_cases hm : k.name ∈ l
  · exact hm
  · have : k.name ∈ newK B right l B.kinds := List.mem_map_of_mem (List.mem_filter.mpr ⟨hk, by simp only [decide_eq_false hm, Bool.not_false, Bool.true_and, a]⟩)
    rw [h] at this
    cases this
section
variable {P : Program} {w : World} {K : PySem.W.Frag} {mg : Str → Option Value} {base : Heap}
theorem scGrown : FnScope ["rulebook", "is_right", "given", "found", "grows", "more", "name", "keep", "bar", "grounds", "ground"] ["rulebook", "is_right", "given"] (defScope sGrown) := ⟨rfl, rfl, rfl, by decide +kernel, rfl, by decide +kernel, by decide +kernel⟩
theorem ok_grown {f : Addr} {fd : FuncData} (F : Fun K "grown_kinds" "grown_kinds" sGrown f fd) (za : mg "any" = none) (zt : mg "tuple" = none) (zs : mg "sorted" = none) : FnOk P w K mg base CX0 7 f fd ["rulebook", "is_right", "given"] (spGrown P w K mg base) := by
  refine F.ok scGrown (fun vs H Q E h => ?_) (fun cdv A outer s H vs Q E hr h => ?_)
  · obtain ⟨p, fr, gv, B, right, rfl, _⟩ := h
    rfl
  · obtain ⟨p, fr, gv, B, right, rfl, rp, ok, kf, FR, kQ⟩ := h
    have nd := scGrown.nd
    have hu := hr.units
    refine ⟨_, pss_cons (ps_asg (pe_tup (pa_cons (pe_lst pa_nil) (pa_cons pe_bl pa_nil))) (pg_tup rfl (pgs_cons (pg_name (i := 3) nd rfl (Or.inr rfl)) (pgs_cons (pg_name (i := 4) nd rfl (Or.inl rfl)) pgs_nil))))
      (pss_cons (ps_while PassesOwn.never (pt_val (pv 4))
        (pss_cons (ps_set (i := 5) nd rfl (Or.inl rfl) (pe_lst pa_nil))
        (pss_cons (ps_for PassesOwn.never rfl (pi_tup (pe_ix ix_tup (pv 0) pe_int (fun _ _ => rfl))) (pg_tup rfl (pgs_cons (pg_name (i := 6) nd rfl (Or.inl rfl)) (pgs_cons (pg_name (i := 7) nd rfl (Or.inl rfl)) (pgs_cons (pg_name (i := 8) nd rfl (Or.inl rfl)) (pgs_cons (pg_name (i := 9) nd rfl (Or.inl rfl)) pgs_nil)))))
          (pss_one (ps_if (PW.pt (pw_and (pt_cmpR op_notIn_seq (pv 6) (pv 3) (by rfl)) (pw_and1 (pt_val (pe_callB (cr_any rfl) (by rfl) za PyProof.Rows.boot_any (pa_cons
              (pe_lc (own := [("ground", 10)]) (g := gName 10) (tt := tYes) (te := ItX.tCallV 1 fr (spRight K H p gv B right) E0 (tCons (tVar 0) (tCons (tVar 10) (tCons (tVar 3) (tCons (tVar 2) tNil))))) rfl nd (pi_tup (pv 9))
                (blkOk_by (own := [("ground", 10)]) (N := ["rulebook", "is_right", "given", "found", "grows", "more", "name", "keep", "bar", "grounds", "ground"]) (sc := defScope sGrown) (by decide +kernel)) (fun _ _ _ _ _ => pg_name (i := 10) nd rfl (Or.inl rfl)) (fun _ _ _ _ _ => pts_nil)
                (fun _ _ _ _ _ => ItX.pe_callV FR hr kf pass0 rfl (Or.inr (Or.inl rfl)) (pa_cons (pv 0) (pa_cons (pv 10) (pa_cons (pv 3) (pa_cons (pv 2) pa_nil)))))) pa_nil))))))
            (pss_one (ps_expr (by exact (pe_bm PySem.F.plainAttrs_list PySem.F.slot_list_append PySem.F.type_list_append mt_append (pv 5) (pa_cons (pv 6) pa_nil))))) pss_nil)))
        (pss_cons (ps_set (i := 4) nd rfl (Or.inl rfl) (pe_cmpR (op_neD hu) (pv 5) (pe_lst pa_nil) (nomark _)))
        (pss_one (ps_set (i := 3) nd rfl (Or.inr rfl) (pe_op op_cat (pv 3) (pv 5))))))))
      (pss_one (ps_ret (pe_tupleOf (by rfl) zt (pe_callB cr_sortedS (by rfl) zs (by decide +kernel) (pa_cons (pv 3) pa_nil)))))), ?_⟩
    obtain ⟨pr, pk, ks, hp, hpr, hpk, rks⟩ := Bk.rp_rows rp
    have lk : ks.length = B.kinds.length := by rw [rks.len, List.length_map]
    have lb := ok.len
    have lnm := ok.names.len
    refine ⟨Nat.zero_le _, fun L nL => ⟨by show 2 ≤ sizeLine; decide, fun t0 nt0 => ?_⟩⟩
    have s1 : Same H (upd H L (.lst [])) := same_new (Same.refl H) nL
    have h1 : upd H L (.lst []) L = some (.lst []) := upd_same
    generalize upd H L (.lst []) = H1 at s1 h1 nt0
    have s2 : Same H1 (upd H1 t0 (.tup [.ref L, .bl true])) := same_new (Same.refl H1) nt0
    have h2 : upd H1 t0 (.tup [.ref L, .bl true]) t0 = some (.tup [.ref L, .bl true]) := upd_same
    generalize upd H1 t0 (.tup [.ref L, .bl true]) = H2 at s2 h2
    refine ⟨t0, _, rfl, SqT.of h2, rfl, _, _, rfl, _, _, rfl, rfl, ?_⟩
    try dsimp only
    show tSeq _ _ _ [some (.ref p), some (.ref fr), some gv, some (.ref L), some (.bl true), none, none, none, none, none, none] H2
    refine ⟨fun m σ' H' => ∃ (Lf : Addr) (gr : Bool) (found : List Str), (∃ x5 x6 x7 x8 x9 x10, σ' = [some (.ref p), some (.ref fr), some gv, some (.ref Lf), some (.bl gr), x5, x6, x7, x8, x9, x10]) ∧ Same H H' ∧ H' Lf = some (.lst (found.map V.str)) ∧ found.Nodup ∧ (∀ x ∈ found, LS B right x) ∧ (gr = false → ClosedR B right found) ∧ m = 2 * (15 - found.length) + (if gr = true then 1 else 0),
      ⟨_, L, true, [], ⟨_, _, _, _, _, _, rfl⟩, s1.trans s2, s2 _ _ h1, List.nodup_nil, (fun x m => absurd m List.not_mem_nil), (fun z => Bool.noConfusion z), rfl⟩, ?_⟩
    rintro m σ' H3 ⟨Lf, gr, found, ⟨x5, x6, x7, x8, x9, x10, rfl⟩, s3, hLf, ndf, lsf, clf, rfl⟩
    refine ⟨_, rfl, gr, rfl, ?_⟩
    have lf : found.length ≤ 15 := Nat.le_trans (nodup_sub ndf fun x hx => (lsf x hx).isin) lnm
    cases gr with
    | false =>
      refine iteF ?_
      refine ⟨_, rfl, Lf, found, rfl, SqL.of hLf, by omega, fun ws r pw sw nr => .inl ⟨r, _, rfl, SqL.of upd_same, fun t nt => ?_⟩⟩
      have s4 : Same H3 (upd H3 r (.lst (ws.map V.str))) := same_new (Same.refl H3) nr
      generalize upd H3 r (.lst (ws.map V.str)) = H4 at s4 nt
      have s5 : Same H4 (upd H4 t (.tup (ws.map V.str))) := same_new (Same.refl H4) nt
      exact kQ t _ ws (s3.trans (s4.trans s5)) ((s3.trans s4).free nt) upd_same fun mono => sorted_one sw (lsL_sorted ok) (pw.trans (is_lsL ok mono ndf lsf (clf rfl)))
    | true =>
      refine iteT ⟨fun σ' H' => ∃ (Lf' : Addr) (gr : Bool) (found' : List Str), (∃ x5 x6 x7 x8 x9 x10, σ' = [some (.ref p), some (.ref fr), some gv, some (.ref Lf'), some (.bl gr), x5, x6, x7, x8, x9, x10]) ∧ Same H H' ∧ H' Lf' = some (.lst (found'.map V.str)) ∧ found'.Nodup ∧ (∀ x ∈ found', LS B right x) ∧ (gr = false → ClosedR B right found') ∧ 2 * (15 - found'.length) + (if gr = true then 1 else 0) < 2 * (15 - found.length) + 1,
        fun σ' H' ⟨Lf', gr', found', h1, h2, h3, h4, h5, h6, h7⟩ => ⟨_, h7, Lf', gr', found', h1, h2, h3, h4, h5, h6, rfl⟩, ?_⟩
      refine ⟨Nat.zero_le _, fun M nM => ?_⟩
      have n0M : H M = none := s3.free nM
      have LM : Lf ≠ M := fun z => by rw [z, nM] at hLf; cases hLf
      have s4 : Same H3 (upd H3 M (.lst [])) := same_new (Same.refl H3) nM
      have h4 : upd H3 M (.lst []) M = some (.lst (([] : List Str).map V.str)) := upd_same
      generalize upd H3 M (.lst []) = H4 at s4 h4
      try dsimp only
      show tSeq _ _ _ [some (.ref p), some (.ref fr), some gv, some (.ref Lf), some (.bl true), some (.ref M), x6, x7, x8, x9, x10] H4
      have s04 := s3.trans s4
      refine ⟨_, rfl, p, _, 1, .ref pk, rfl, rfl, SqT.of (s04 _ _ hp), atI_nat (j := 1) rfl, pk, rfl, ⟨_, SqT.of (s04 _ _ hpk)⟩, for_tup (xs := ks) (fun i σ' H' => (∃ x6 x7 x8 x9 x10, σ' = [some (.ref p), some (.ref fr), some gv, some (.ref Lf), some (.bl true), some (.ref M), x6, x7, x8, x9, x10]) ∧ Same H H' ∧ H' Lf = some (.lst (found.map V.str)) ∧ H' M = some (.lst ((newK B right found (B.kinds.take i)).map V.str)))
        ⟨⟨_, _, _, _, _, rfl⟩, s04, s4 _ _ hLf, h4⟩ (fun i σ' H' _ z => SqT.of (z.2.1 _ _ hpk)) ?_ ?_⟩
      · rintro i x σ' H' hi ⟨⟨x6, x7, x8, x9, x10, rfl⟩, s5, hL5, hM5⟩
        obtain ⟨kd, hk, rk⟩ := at_of rks hi
        obtain ⟨a, g, gvs, rfl, ha, hg, rg⟩ := Kd.rp rk
        have kin : kd ∈ B.kinds := List.mem_of_getElem? hk
        have il : i < 15 := by
          have := (List.getElem?_eq_some_iff.mp hk).1
          omega
        have lnew : (newK B right found (B.kinds.take i)).length ≤ 15 := by
          unfold newK
          rw [List.length_map]
          have := List.length_filter_le (fun k => !decide (k.name ∈ found) && k.gs.any (right found)) (B.kinds.take i)
          rw [List.length_take] at this
          omega
        refine ⟨a, _, rfl, SqT.of (s5 _ _ ha), rfl, _, _, rfl, _, _, rfl, _, _, rfl, _, _, rfl, rfl, ?_⟩
        have es := newK_succ (B := B) (right := right) (l := found) hk
        refine ⟨_, rfl, _, rfl, in_read (neg := true) (.inl hL5) ⟨_, rfl, ?_⟩⟩
        show if (!decide (kd.name ∈ found)) = true then _ else _
        refine ite2 (fun e1 => ?_) fun e1 => ?_
        · refine ⟨_, rfl, g, rfl, ⟨_, SqT.of (s5 _ _ hg)⟩, fun Dx nD => ?_⟩
          have lgv : gvs.length = kd.gs.length := by rw [rg.len, List.length_map]
          have lg4 := (ok.kinds kd kin).len
          refine lc_map (K := K) (walk_tup (xs := gvs)) ((kd.gs.map (right found)).map D.bl) (by rw [List.length_map, List.length_map, lgv]) (bl_flat _) nD (by omega) (fun H' s => SqT.of (s _ _ (s5 _ _ hg))) ?_ ?_ gName_mono
          · rintro j d x Ha Hb Q' hj hd sa ⟨rfl, hx⟩ kk
            obtain ⟨gr', hgr, rgr⟩ := at_of rg hx
            have ed : d = .bl (right found gr') := by
              rw [List.map_map, List.getElem?_map, hgr] at hd
              exact (Option.some.inj hd).symm
            subst ed
            exact ⟨rfl, rfl, _, rfl, _, rfl, _, rfl, _, rfl, x, Lf, gr', found, rfl, s5.trans sa, rgr.same (s5.trans sa), (ok.kinds kd kin).gs gr' (List.mem_of_getElem? hgr), sa _ _ hL5, fun H' s' => kk _ H' s' (.bl _)⟩
          · intro H6 zs s6 hD r
            have e := rp_bls r
            subst e
            have hM6 := s6 _ _ hM5
            refine ⟨Dx, kd.gs.map (right found), rfl, SqL.of hD, _, rfl, ?_⟩
            rw [List.any_map]
            refine ite2 (fun e2 => ?_) fun e2 => ?_
            · have e2' : kd.gs.any (right found) = true := e2
              rw [e1, e2', Bool.and_self, if_pos rfl] at es
              refine ⟨_, rfl, .inl ⟨rfl, _, SqL.of hM6⟩, _, rfl, M, _, .str kd.name, rfl, rfl, hM6, by rw [List.length_map, sizeLine_eq]; omega, ⟨_, _, _, _, _, rfl⟩, same_put (s5.trans s6) n0M, by rw [upd_ne LM]; exact s6 _ _ hL5, ?_⟩
              rw [upd_same, es, List.map_append]
              rfl
            · have e2' : kd.gs.any (right found) = false := by
                cases h : kd.gs.any (right found) with
                | false => rfl
                | true => exact absurd h e2
              rw [e2', Bool.and_false, if_neg (by decide), List.append_nil] at es
              refine ⟨⟨_, _, _, _, _, rfl⟩, s5.trans s6, s6 _ _ hL5, ?_⟩
              rw [es]
              exact hM6
        · have e1' : (!decide (kd.name ∈ found)) = false := by
            cases h : (!decide (kd.name ∈ found)) with
            | false => rfl
            | true => exact absurd h e1
          rw [e1', Bool.false_and, if_neg (by decide), List.append_nil] at es
          refine ⟨⟨_, _, _, _, _, rfl⟩, s5, hL5, ?_⟩
          rw [es]
          exact hM5
      · rintro σ' H5 ⟨⟨x6, x7, x8, x9, x10, rfl⟩, s5, hL5, hM5⟩
        rw [lk, List.take_length] at hM5
        have inm : ∀ x ∈ newK B right found B.kinds, x ∈ menu := fun x hx => by
          obtain ⟨_, k, hk, e, _⟩ := newK_in hx
          rw [← e]
          exact ok.name_in hk
        try dsimp only
        show tSeq _ _ _ [some (.ref p), some (.ref fr), some gv, some (.ref Lf), some (.bl true), some (.ref M), x6, x7, x8, x9, x10] H5
        refine ⟨_, rfl, Nat.zero_le _, fun e ne => ?_⟩
        have s6 : Same H5 (upd H5 e (.lst [])) := same_new (Same.refl H5) ne
        have h6 : upd H5 e (.lst []) e = some (.lst []) := upd_same
        generalize upd H5 e (.lst []) = H6 at s6 h6
        obtain ⟨d1, d2, d3⟩ := strs_dp (K := K) (s6 _ _ hM5) inm
        refine ⟨_, .list [], d1, .lst (SqL.of h6) .nil, d2, rfl, ?_⟩
        rw [d3]
        have lnew : (newK B right found B.kinds).length ≤ 15 := by
          unfold newK
          rw [List.length_map]
          have := List.length_filter_le (fun k => !decide (k.name ∈ found) && k.gs.any (right found)) B.kinds
          omega
        refine ⟨_, rfl, _, rfl, Lf, M, _, _, rfl, rfl, s6 _ _ hL5, s6 _ _ hM5, by rw [List.length_map, List.length_map, sizeLine_eq]; omega, fun u nu => ?_⟩
        have s7 : Same H6 (upd H6 u (.lst (found.map V.str ++ (newK B right found B.kinds).map V.str))) := same_new (Same.refl H6) nu
        have ndn : (found ++ newK B right found B.kinds).Nodup := by
          rw [List.nodup_append]
          exact ⟨ndf, newK_nodup ok, fun x hx y hy e' => (newK_in hy).1 (e' ▸ hx)⟩
        have lsn : ∀ x ∈ found ++ newK B right found B.kinds, LS B right x := fun x hx => by
          rcases List.mem_append.mp hx with z | z
          · exact lsf x z
          · obtain ⟨_, k, hk, e', a⟩ := newK_in z
            rw [← e']
            exact .mk k found hk lsf a
        have ln2 : (found ++ newK B right found B.kinds).length ≤ 15 := Nat.le_trans (nodup_sub ndn fun x hx => (lsn x hx).isin) lnm
        refine ⟨u, decide (newK B right found B.kinds ≠ []), found ++ newK B right found B.kinds, ⟨_, _, _, _, _, _, rfl⟩, (s5.trans s6).trans s7, by rw [upd_same, List.map_append], ndn, lsn, fun z => ?_, ?_⟩
        · have z' : newK B right found B.kinds = [] := by
            have := of_decide_eq_false z
            exact Classical.not_not.mp this
          rw [z', List.append_nil]
          exact newK_nil z'
        · rw [List.length_append] at ln2 ⊢
          by_cases z : newK B right found B.kinds = []
          · rw [z]
            simp
          · have : 0 < (newK B right found B.kinds).length := List.length_pos_iff.mpr z
            rw [decide_eq_true z, if_pos rfl]
            omega
end
end Gy

namespace Gy
open PySem L2 PySem.Spec PyProof.Rows
/-! ### a comprehension with a condition -/
theorem flat_map {α : Type} {e : α → D} (h : ∀ x, (e x).flat = true) : ∀ xs : List α, D.flatAll (xs.map e) = true
  | [] => rfl
  | x :: xs => by simp only [List.map_cons, D.flatAll, h x, flat_map h xs, Bool.and_self]
theorem g2_mono {K : PySem.W.Frag} {i j : Nat} : ∀ x σ' H' (A B : L2.St → Hp → Prop), (∀ σ2 H2, A σ2 H2 → B σ2 H2) → gTup K 2 (gCons (gName i) (gCons (gName j) gNil)) x σ' H' A → gTup K 2 (gCons (gName i) (gCons (gName j) gNil)) x σ' H' B := by
  rintro x σ' H' A B h ⟨a, xs, e1, e2, e3, y, r, e4, y2, r2, e5, e6, q⟩
  exact ⟨a, xs, e1, e2, e3, y, r, e4, y2, r2, e5, e6, h _ _ q⟩
theorem lc_filt {α : Type} {K : PySem.W.Frag} {J : It} {n : Nat} {G : Hp → Prop} {Y : Nat → Hp → V → Hp → Prop} (wk : Walk J n G Y) {g : TG} {tt : TT} {te : TE} {σ : L2.St} {vs : List Nat} {Dx : Addr} {H1 : Hp} {Qd : Hp → Prop} (xs : List α) (f : α → Bool) (e : α → Gy.D) (hl : xs.length = n) (hf : ∀ x, (e x).flat = true) (nD : H1 Dx = none) (hn : n ≤ 100000)
    (hG : ∀ H', Same H1 H' → G H')
    (turn : ∀ i a x H' H'' (R : Hp → Prop) (Q : VK), i < n → xs[i]? = some a → Same H1 H' → Y i H' x H'' → (∀ H2, Same H' H2 → f a = false → R H2) → (∀ y H2, Same H' H2 → f a = true → Rp K H2 y (e a) → Q y H2) → g x (wipe σ vs) H'' fun σ2 H2 => wipe σ2 vs = wipe σ vs ∧ tt σ2 H2 fun bb H3 => if bb = true then te σ2 H3 Q else R H3)
    (fin : ∀ (H' : Hp) (ys : List V), Same H1 H' → H' Dx = some (.lst ys) → RpAll K H' ys ((xs.filter f).map e) → Qd H') :
    ∃ W : Nat → Nat → Hp → Prop, (∃ m, W 0 m (upd H1 Dx (.lst []))) ∧ ∀ i m H, W i m H →
      (J.stop i H ∧ Qd H) ∨ (J.go i H ∧ ∃ Nx : Hp → Prop, (∀ H', Nx H' → ∃ m', m' < m ∧ W (i + 1) m' H') ∧ ∀ x H', J.yld i H x H' → g x (wipe σ vs) H' fun σ2 H2 => wipe σ2 vs = wipe σ vs ∧ tt σ2 H2 fun bb H3 => if bb = true then te σ2 H3 fun y H4 => ∃ acc, H4 Dx = some (.lst acc) ∧ acc.length < sizeLine ∧ Nx (upd H4 Dx (.lst (acc ++ [y]))) else Nx H3) := by
  refine lc_it wk (fun i H' => Same H1 H' ∧ ∃ ys, H' Dx = some (.lst ys) ∧ RpAll K H' ys (((xs.take i).filter f).map e)) ⟨same_put (Same.refl H1) nD, [], upd_same, .nil⟩ (fun i H' _ z => hG H' z.1) ?_ ?_
  · rintro i x H' H'' hi ⟨s, ys, hD, r⟩ y
    obtain ⟨a, ha⟩ : ∃ a, xs[i]? = some a := ⟨_, List.getElem?_eq_getElem (by omega)⟩
    have es : (xs.take (i + 1)).filter f = (xs.take i).filter f ++ (if f a = true then [a] else []) := by
      rw [List.take_succ, ha, List.filter_append]
      congr 1
      show List.filter f [a] = _
      rw [List.filter_cons, List.filter_nil]
    have ly : ys.length ≤ i := by
      rw [r.len, List.length_map]
      have := List.length_filter_le f (xs.take i)
      rw [List.length_take] at this
      omega
    refine turn i a x H' H'' _ _ hi ha s y (fun H2 s2 hfa => ⟨s.trans s2, ys, s2 _ _ hD, ?_⟩) fun v H2 s2 hfa rv => ?_
    · rw [es, hfa, if_neg (by decide), List.append_nil]
      exact RpAll.same s2 r
    · have hD2 := s2 _ _ hD
      have T3 : Tups H2 (upd H2 Dx (.lst (ys ++ [v]))) := Tups.put hD2
      refine ⟨ys, hD2, by rw [sizeLine_eq]; omega, same_put (s.trans s2) nD, _, upd_same, ?_⟩
      rw [es, hfa, if_pos rfl, List.map_append]
      exact (r.tups ((Tups.same s2).trans T3) (flat_map hf _)).append (.cons (Rp.tups T3 rv (hf a)) .nil)
  · rintro H' ⟨s, ys, hD, r⟩
    rw [← hl, List.take_length] at r
    exact fin H' ys s hD r
/-! ### the package's other functions -/
abbrev sBearK : Stmt := top 10
def spBearK (K : PySem.W.Frag) : Sp := fun vs H Q _ => ∃ (p : Addr) (B : Bk), vs = [.ref p] ∧ Rp K H (.ref p) B.d ∧ BOk B ∧ ∀ t H', Same H H' → H t = none → H' t = some (.tup (B.bear.map V.str)) → Q (.ref t) H'
abbrev sCleanK : Stmt := top 13
def spCleanK (K : PySem.W.Frag) : Sp := fun vs H Q _ => ∃ (p S : Addr) (B : Bk) (st : List Str), vs = [.ref p, .ref S] ∧ Rp K H (.ref p) B.d ∧ BOk B ∧ SqQ H S (st.map V.str) ∧ ∀ t H', Same H H' → H t = none → H' t = some (.tup ((B.clean st).map V.str)) → Q (.ref t) H'
abbrev sAbleK : Stmt := top 16
def spAbleK (K : PySem.W.Frag) : Sp := fun vs H Q _ => ∃ (p S : Addr) (B : Bk) (st : List Str), vs = [.ref p, .ref S] ∧ Rp K H (.ref p) B.d ∧ BOk B ∧ SqQ H S (st.map V.str) ∧ ∀ t H', Same H H' → H t = none → H' t = some (.tup ((B.able st).map V.str)) → Q (.ref t) H'
def liveL (B : Bk) (be : List Str) (gs : List (List Nd)) : List Nat := (List.range gs.length).filter fun i => metG B be (gs.getD i [])
def spLiveOf (K : PySem.W.Frag) : Sp := fun vs H Q _ => ∃ (p G E : Addr) (B : Bk) (gs : List (List Nd)) (gvs : List V) (be : List Str), vs = [.ref p, .ref G, .ref E] ∧ Rp K H (.ref p) B.d ∧ BOk B ∧ H G = some (.tup gvs) ∧ RpAll K H gvs (gs.map gd) ∧ (∀ g ∈ gs, GOk B.rows B.names 3 g) ∧ gs.length ≤ 4 ∧ SqQ H E (be.map V.str) ∧
  ∀ l H', Same H H' → H l = none → H' l = some (.lst ((liveL B be gs).map fun i : Nat => V.int i)) → Q (.ref l) H'
def spLiveG (K : PySem.W.Frag) : Sp := fun vs H Q _ => ∃ (p : Addr) (B : Bk) (k : Kd), vs = [.ref p, .str k.name] ∧ Rp K H (.ref p) B.d ∧ BOk B ∧ k ∈ B.kinds ∧
  ∀ l H', Same H H' → H l = none → H' l = some (.lst ((liveL B B.bear k.gs).map fun i : Nat => V.int i)) → Q (.ref l) H'
def spForcedN (K : PySem.W.Frag) : Sp := fun vs H Q _ => ∃ (p S : Addr) (B : Bk) (k : Kd) (st : List Str) (i : Nat) (g : List Nd), vs = [.ref p, .ref S, .str k.name, .int i] ∧ Rp K H (.ref p) B.d ∧ BOk B ∧ k ∈ B.kinds ∧ k.gs[i]? = some g ∧ SqQ H S (st.map V.str) ∧
  ∀ l H', Same H H' → H l = none → H' l = some (.lst ((places (forcedN st (B.clean st)) g).map fun i : Nat => V.int i)) → Q (.ref l) H'
def natsD (l : List Nat) : D := .tup (l.map fun i : Nat => D.int i)
def oldD (st cl ab : List Str) (g : List Nd) : D :=
  if places (forcedN st cl) g ≠ [] then .tup [.str "all", natsD (places (forcedN st cl) g)] else if places (oldN ab) g ≠ [] then .tup [.str "one", natsD (places (oldN ab) g)] else .tup [.str "none", .tup []]
def spOldP (K : PySem.W.Frag) : Sp := fun vs H Q _ => ∃ (v : V) (S C A : Addr) (g : List Nd) (st cl ab : List Str), vs = [v, .ref S, .ref C, .ref A] ∧ Rp K H v (gd g) ∧ g.length ≤ 3 ∧ SqQ H S (st.map V.str) ∧ SqQ H C (cl.map V.str) ∧ SqQ H A (ab.map V.str) ∧
  ∀ r H', Same H H' → Rp K H' r (oldD st cl ab g) → Q r H'
def spOldNd (K : PySem.W.Frag) : Sp := fun vs H Q _ => ∃ (p S : Addr) (B : Bk) (k : Kd) (st : List Str) (i : Nat) (g : List Nd), vs = [.ref p, .ref S, .str k.name, .int i] ∧ Rp K H (.ref p) B.d ∧ BOk B ∧ k ∈ B.kinds ∧ k.gs[i]? = some g ∧ SqQ H S (st.map V.str) ∧
  ∀ r H', Same H H' → Rp K H' r (oldD st (B.clean st) (B.able st) g) → Q r H'
section
variable {P : Program} {w : World} {K : PySem.W.Frag} {mg : Str → Option Value} {base : Heap}
theorem scBearK : FnScope ["rulebook"] ["rulebook"] (defScope sBearK) := ⟨rfl, rfl, rfl, by decide +kernel, rfl, by decide +kernel, by decide +kernel⟩
theorem ok_bearK {f fr : Addr} {fd : FuncData} (F : Fun K "bearing_kinds" "bearing_kinds" sBearK f fd) (CG : Cal P w K mg base 7 "grown_kinds" ["rulebook", "is_right", "given"] (spGrown P w K mg base)) (CB : Cal P w K mg base 5 "is_bearing_by" ["rulebook", "ground", "found", "given"] (spBear K)) : FnOk P w K mg base CX0 8 f fd ["rulebook"] (spBearK K) := by
  obtain ⟨fb, fdb, hm, hb, hk, FB⟩ := CB.ex
  refine F.ok scBearK (fun vs H Q E h => ?_) (fun cdv A outer s H vs Q E hr h => ?_)
  · obtain ⟨p, B, rfl, _⟩ := h
    rfl
  · obtain ⟨p, B, rfl, rp, ok, kQ⟩ := h
    refine ⟨_, pss_one (ps_ret (pe_cal CG hr rfl (pa_cons (pv 0) (pa_cons (pe_glob (v := .ref fb) rfl hm rfl) (pa_cons pe_non pa_nil))))), ?_⟩
    have FR := ((FB.raw hb .nil).mono (by decide : 5 ≤ 6)).imp (sp' := spRight K H p .non B (metG B)) fun vs H' Q E h => by
      obtain ⟨v, L, g, ss, rfl, s, rg, okg, hL, kk⟩ := h
      exact ⟨p, L, v, .non, B, g, ss, rfl, rp.same s, ok, rg, okg, .inl hL, kk⟩
    exact ⟨_, rfl, p, fb, .non, B, metG B, rfl, rp, ok, hk, FR, fun t H' ss s nt ht e => kQ t H' s nt (by rw [e (metG_mono B)] at ht; exact ht)⟩
theorem scCleanK : FnScope ["rulebook", "struck"] ["rulebook", "struck"] (defScope sCleanK) := ⟨rfl, rfl, rfl, by decide +kernel, rfl, by decide +kernel, by decide +kernel⟩
theorem ok_cleanK {f : Addr} {fd : FuncData} (F : Fun K "clean_kinds" "clean_kinds" sCleanK f fd) (CG : Cal P w K mg base 7 "grown_kinds" ["rulebook", "is_right", "given"] (spGrown P w K mg base)) (CB : Cal P w K mg base 6 "is_clean_by" ["rulebook", "ground", "found", "struck"] (spClean K)) : FnOk P w K mg base CX0 8 f fd ["rulebook", "struck"] (spCleanK K) := by
  obtain ⟨fb, fdb, hm, hb, hk, FB⟩ := CB.ex
  refine F.ok scCleanK (fun vs H Q E h => ?_) (fun cdv A outer s H vs Q E hr h => ?_)
  · obtain ⟨p, S, B, st, rfl, _⟩ := h
    rfl
  · obtain ⟨p, S, B, st, rfl, rp, ok, hS, kQ⟩ := h
    refine ⟨_, pss_one (ps_ret (pe_cal CG hr rfl (pa_cons (pv 0) (pa_cons (pe_glob (v := .ref fb) rfl hm rfl) (pa_cons (pv 1) pa_nil))))), ?_⟩
    have FR := (FB.raw hb .nil).imp (sp' := spRight K H p (.ref S) B (rClean B st)) fun vs H' Q E h => by
      obtain ⟨v, L, g, ss, rfl, s, rg, okg, hL, kk⟩ := h
      exact ⟨p, L, S, v, B, g, ss, st, rfl, rp.same s, ok, rg, okg, .inl hL, hS.same s, kk⟩
    exact ⟨_, rfl, _, rfl, p, fb, .ref S, B, rClean B st, rfl, rp, ok, hk, FR, fun t H' ss s nt ht e => kQ t H' s nt (by rw [e (clean_mono B st)] at ht; exact ht)⟩
theorem scAbleK : FnScope ["rulebook", "struck"] ["rulebook", "struck"] (defScope sAbleK) := ⟨rfl, rfl, rfl, by decide +kernel, rfl, by decide +kernel, by decide +kernel⟩
theorem ok_ableK {f : Addr} {fd : FuncData} (F : Fun K "able_kinds" "able_kinds" sAbleK f fd) (CG : Cal P w K mg base 7 "grown_kinds" ["rulebook", "is_right", "given"] (spGrown P w K mg base)) (CB : Cal P w K mg base 6 "is_able_by" ["rulebook", "ground", "found", "given"] (spAble K))
    (CC : Cal P w K mg base 8 "clean_kinds" ["rulebook", "struck"] (spCleanK K)) (CE : Cal P w K mg base 8 "bearing_kinds" ["rulebook"] (spBearK K)) : FnOk P w K mg base CX0 9 f fd ["rulebook", "struck"] (spAbleK K) := by
  obtain ⟨fb, fdb, hm, hb, hk, FB⟩ := CB.ex
  refine F.ok scAbleK (fun vs H Q E h => ?_) (fun cdv A outer s H vs Q E hr h => ?_)
  · obtain ⟨p, S, B, st, rfl, _⟩ := h
    rfl
  · obtain ⟨p, S, B, st, rfl, rp, ok, hS, kQ⟩ := h
    have hr7 := hr.mono (by decide : 7 ≤ 8)
    refine ⟨_, pss_one (ps_ret (pe_cal CG hr7 rfl (pa_cons (pv 0) (pa_cons (pe_glob (v := .ref fb) rfl hm rfl) (pa_cons (pe_tup (pa_cons (pv 1) (pa_cons (pe_cal CC hr rfl (pa_cons (pv 0) (pa_cons (pv 1) pa_nil))) (pa_cons (pe_cal CE hr rfl (pa_cons (pv 0) pa_nil)) pa_nil)))) pa_nil))))), ?_⟩
    refine ⟨_, rfl, _, rfl, _, rfl, _, rfl, p, S, B, st, rfl, rp, ok, hS, fun C H1 s1 nC hC => ⟨_, rfl, p, B, rfl, rp.same s1, ok, fun E' H2 s2 nE hE => ⟨by show 3 ≤ sizeLine; decide, fun G nG => ?_⟩⟩⟩
    have s12 := s1.trans s2
    have s3 : Same H2 (upd H2 G (.tup [.ref S, .ref C, .ref E'])) := same_new (Same.refl H2) nG
    have h3 : upd H2 G (.tup [.ref S, .ref C, .ref E']) G = some (.tup [.ref S, .ref C, .ref E']) := upd_same
    generalize upd H2 G (.tup [.ref S, .ref C, .ref E']) = H3 at s3 h3
    have s13 := s12.trans s3
    have FR := (FB.raw hb .nil).imp (sp' := spRight K H3 p (.ref G) B (rAble B B.bear (B.clean st) st)) fun vs H' Q E h => by
      obtain ⟨v, L, g, ss, rfl, s, rg, okg, hL, kk⟩ := h
      exact ⟨p, L, G, S, C, E', v, B, g, ss, st, B.clean st, B.bear, rfl, rp.same (s13.trans s), ok, rg, okg, .inl hL, s _ _ h3, hS.same (s13.trans s), .inr (s _ _ (s3 _ _ (s2 _ _ hC))), .inr (s _ _ (s3 _ _ hE)), kk⟩
    exact ⟨p, fb, .ref G, B, rAble B B.bear (B.clean st) st, rfl, rp.same s13, ok, hk, FR, fun t H' ss s nt ht e => kQ t H' (s13.trans s) (s13.free nt) (by rw [e (able_mono B _ _ st)] at ht; exact ht)⟩
end
end Gy

namespace Gy
open PySem L2 PySem.Spec PyProof.Rows
/-! ### live_of, live_grounds, forced_needs, old_places, old_needs -/
theorem range_filter_succ (f : Nat → Bool) (j : Nat) : (List.range (j + 1)).filter f = (List.range j).filter f ++ (if f j = true then [j] else []) := by
  rw [List.range_succ, List.filter_append, List.filter_cons, List.filter_nil]
theorem filter_range_le (f : Nat → Bool) (j : Nat) : ((List.range j).filter f).length ≤ j := by
  have := List.length_filter_le f (List.range j)
  rw [List.length_range] at this
  exact this
section
variable {P : Program} {w : World} {K : PySem.W.Frag} {mg : Str → Option Value} {base : Heap}
abbrev ttOld (K : PySem.W.Frag) : TT := tAnd (tTest (tOp rNe (tOp (rIxT K) (tVar 7) (tC (.int 0))) (tC (.str "row")))) (tTest (tOp (rIn K false) (tOp (rIxT K) (tVar 7) (tC (.int 1))) (tVar 3)))
theorem oldT_read {K : PySem.W.Frag} {σ : L2.St} {H : Hp} {x : V} {L : Addr} {n : Nd} {ss : List Str} {Q : Bool → Hp → Prop} (h7 : σ[7]? = some (some x)) (h2 : σ[3]? = some (some (.ref L))) (rn : Rp K H x n.d) (hL : SqQ H L (ss.map V.str)) (q : Q (oldN ss n) H) : ttOld K σ H Q := by
  obtain ⟨u, rfl, hu⟩ := nd_rp rn
  cases n with
  | row r t m =>
    refine ⟨_, h7, u, _, 0, .str "row", rfl, rfl, SqT.of hu, atI_nat (j := 0) rfl, rfl, _, rfl, ?_⟩
    have z : (!decide (V.str "row" = V.str "row")) = false := by decide +kernel
    rw [z]
    exact iteF q
  | knd n a t m =>
    refine ⟨_, h7, u, _, 0, .str "kind", rfl, rfl, SqT.of hu, atI_nat (j := 0) rfl, rfl, _, rfl, ?_⟩
    have z : (!decide (V.str "kind" = V.str "row")) = true := by decide +kernel
    rw [z]
    exact iteT ⟨_, h7, u, _, 1, .str n, rfl, rfl, SqT.of hu, atI_nat (j := 1) rfl, _, h2, in_read hL ⟨_, rfl, q⟩⟩
end
end Gy

namespace Gy
open PySem L2 PySem.Spec PyProof.Rows
/-! ### sweeps over the kinds, one by one, in turns -/
structure SwA (B : Bk) (right : List Str → List Nd → Bool) (i : Nat) (l : List Str) : Prop where
  nd : l.Nodup
  ls : ∀ x ∈ l, LS B right x
  st : ClosedR B right l ∨ i ≤ l.length
structure SwB (B : Bk) (right : List Str → List Nd → Bool) (i : Nat) (l0 l : List Str) (done : Kd → List Nd → Prop) : Prop where
  nd : l.Nodup
  ls : ∀ x ∈ l, LS B right x
  base : ClosedR B right l0 ∨ i ≤ l0.length
  st : (l = l0 ∧ ∀ k ∈ B.kinds, ∀ g ∈ k.gs, done k g → right l0 g = true → k.name ∈ l0) ∨ (¬ ClosedR B right l0 ∧ i + 1 ≤ l.length)
theorem SwA.start0 {B : Bk} {right : List Str → List Nd → Bool} : SwA B right 0 [] := ⟨List.nodup_nil, (fun x m => absurd m List.not_mem_nil), .inr (Nat.zero_le _)⟩
theorem SwA.start {B : Bk} {right : List Str → List Nd → Bool} {i : Nat} {l : List Str} (h : SwA B right i l) : SwB B right i l l (fun _ _ => False) := ⟨h.nd, h.ls, h.st, .inl ⟨rfl, fun _ _ _ _ z => z.elim⟩⟩
theorem SwB.weaken {B : Bk} {right : List Str → List Nd → Bool} {i : Nat} {l0 l : List Str} {done done' : Kd → List Nd → Prop} (h : SwB B right i l0 l done) (hd : ∀ k ∈ B.kinds, ∀ g ∈ k.gs, done' k g → right l0 g = true → done k g) : SwB B right i l0 l done' :=
  ⟨h.nd, h.ls, h.base, h.st.imp (fun ⟨e, z⟩ => ⟨e, fun k hk g hg d r => z k hk g hg (hd k hk g hg d r) r⟩) id⟩
theorem SwB.fin {B : Bk} {right : List Str → List Nd → Bool} {i : Nat} {l0 l : List Str} {done : Kd → List Nd → Prop} (h : SwB B right i l0 l done) (hd : ∀ k ∈ B.kinds, ∀ g ∈ k.gs, right l0 g = true → done k g) : SwA B right (i + 1) l := by
  refine ⟨h.nd, h.ls, ?_⟩
  rcases h.st with ⟨e, z⟩ | ⟨_, z⟩
  · subst e
    refine .inl fun k hk a => ?_
    obtain ⟨g, hg, r⟩ := List.any_eq_true.mp a
    exact z k hk g hg (hd k hk g hg r) r
  · exact .inr z
theorem not_closed {B : Bk} {right : List Str → List Nd → Bool} {l : List Str} {k : Kd} (hk : k ∈ B.kinds) (a : k.gs.any (right l) = true) (hn : k.name ∉ l) : ¬ ClosedR B right l := fun c => hn (c k hk a)
theorem SwB.stepK {B : Bk} {right : List Str → List Nd → Bool} {i : Nat} {l0 l : List Str} {done : Kd → List Nd → Prop} (h : SwB B right i l0 l done) {k : Kd} (hk : k ∈ B.kinds) (dn : Kd → List Nd → Prop) (q : Bool)
    (hq : q = true → k.name ∉ l ∧ k.gs.any (right l) = true) (hq' : q = false → ∀ k' ∈ B.kinds, ∀ g ∈ k'.gs, dn k' g → right l g = true → k'.name ∈ l ∨ done k' g) (hdn : q = true → True) :
    SwB B right i l0 (l ++ (if q = true then [k.name] else [])) (fun k' g => done k' g ∨ dn k' g) := by
  cases q with
  | true =>
    obtain ⟨hn, ha⟩ := hq rfl
    rw [if_pos rfl]
    refine ⟨List.nodup_append.mpr ⟨h.nd, List.nodup_cons.mpr ⟨List.not_mem_nil, List.nodup_nil⟩, fun a ha' b hb e => hn (by rw [← List.mem_singleton.mp hb, ← e]; exact ha')⟩, fun x hx => ?_, h.base, .inr ?_⟩
    · rcases List.mem_append.mp hx with z | z
      · exact h.ls x z
      · rw [List.mem_singleton.mp z]
        exact .mk k l hk h.ls ha
    · rw [List.length_append, List.length_singleton]
      rcases h.st with ⟨e, _⟩ | ⟨c, z⟩
      · subst e
        have c := not_closed hk ha hn
        exact ⟨c, by have := h.base.resolve_left c; omega⟩
      · exact ⟨c, by omega⟩
  | false =>
    rw [if_neg (by decide), List.append_nil]
    refine ⟨h.nd, h.ls, h.base, ?_⟩
    rcases h.st with ⟨e, z⟩ | z
    · subst e
      refine .inl ⟨rfl, fun k' hk' g hg d r => ?_⟩
      rcases d with d | d
      · exact z k' hk' g hg d r
      · rcases hq' rfl k' hk' g hg d r with y | y
        · exact y
        · exact z k' hk' g hg y r
    · exact .inr z
theorem SwA.all {B : Bk} {right : List Str → List Nd → Bool} {l : List Str} (ok : BOk B) (h : SwA B right B.kinds.length l) (m : MonoR right) : l.Perm (lsL B right) := by
  refine is_lsL ok m h.nd h.ls ?_
  rcases h.st with c | c
  · exact c
  · intro k hk _
    have hin : k.name ∈ B.names := List.mem_map_of_mem hk
    by_cases hm : k.name ∈ l
    · exact hm
    · have q := nodup_sub (l := k.name :: l) (m := B.names) (List.nodup_cons.mpr ⟨hm, h.nd⟩) fun x hx => by
        rcases List.mem_cons.mp hx with e | e
        · rw [e]; exact hin
        · exact (h.ls x e).isin
      unfold Bk.names at q
      rw [List.length_cons, List.length_map] at q
      omega
theorem SwA.len {B : Bk} {right : List Str → List Nd → Bool} {i : Nat} {l : List Str} (ok : BOk B) (h : SwA B right i l) : l.length ≤ 15 := Nat.le_trans (nodup_sub h.nd fun x hx => (h.ls x hx).isin) ok.names.len
theorem SwB.len {B : Bk} {right : List Str → List Nd → Bool} {i : Nat} {l0 l : List Str} {done : Kd → List Nd → Prop} (ok : BOk B) (h : SwB B right i l0 l done) : l.length ≤ 15 := Nat.le_trans (nodup_sub h.nd fun x hx => (h.ls x hx).isin) ok.names.len
/-- kinds before the j-th -/
def dnK (B : Bk) (j : Nat) : Kd → List Nd → Prop := fun k _ => ∃ j' < j, B.kinds[j']? = some k
/-! ### the dict of what a kind is -/
def Kd.tl (k : Kd) : D := .tup [.int k.keep, .int k.bar, .tup (k.gs.map gd)]
theorem Kd.rp_tl {K : PySem.W.Frag} {H : Hp} {v : V} {k : Kd} (r : Rp K H v k.tl) : ∃ a g gvs, v = .ref a ∧ H a = some (.tup [.int k.keep, .int k.bar, .ref g]) ∧ H g = some (.tup gvs) ∧ RpAll K H gvs (k.gs.map gd) := by
  unfold Kd.tl at r
  cases r with
  | tup e r =>
    cases r with
    | cons r1 r =>
      cases r with
      | cons r2 r =>
        cases r with
        | cons r3 r =>
          cases r
          cases r1
          cases r2
          cases r3 with
          | tup e4 r4 => exact ⟨_, _, _, rfl, e, e4, r4⟩
theorem gd_flat (g : List Nd) : (gd g).flat = true := by
  unfold gd
  simp only [D.flat]
  exact flat_map (fun n => by cases n <;> rfl) g
theorem tl_flat (k : Kd) : k.tl.flat = true := by
  unfold Kd.tl
  simp only [D.flat, D.flatAll, flat_map gd_flat, Bool.and_self]
def KDT (K : PySem.W.Frag) (H : Hp) (d : Addr) (B : Bk) : Prop := ∃ ts : List V, Rd H d (.dK (keyed B.names ts)) ∧ RpAll K H ts (B.kinds.map Kd.tl)
theorem KDT.get {K : PySem.W.Frag} {H : Hp} {d : Addr} {B : Bk} (h : KDT K H d B) (ok : BOk B) {k : Kd} (hk : k ∈ B.kinds) : ∃ v, DGet H d (.str k.name) (some v) ∧ Rp K H v k.tl := by
  obtain ⟨ts, hd, r⟩ := h
  obtain ⟨i, hi⟩ := List.getElem?_of_mem hk
  obtain ⟨v, hv, rv⟩ := at_to r hi
  have hn : B.names[i]? = some k.name := by
    unfold Bk.names
    rw [List.getElem?_map, hi]
    rfl
  have l : B.names.length = ts.length := by
    unfold Bk.names
    rw [r.len, List.length_map, List.length_map]
  have q := val_self (keyed_nodup l ok.names.nd) _ (List.mem_of_getElem? (keyed_at hn hv))
  refine ⟨v, ?_, rv⟩
  rw [← q]
  exact .inl ⟨_, Sum.inr k.name, hd, rfl, rfl⟩
theorem Rd.same {H H' : Hp} {d : Addr} {u : HO} (h : Rd H d u) (s : Same H H') : Rd H' d u := h.imp (s _ _) fun ⟨o, e⟩ => ⟨o, s _ _ e⟩
theorem KDT.same {K : PySem.W.Frag} {H H' : Hp} {d : Addr} {B : Bk} (h : KDT K H d B) (s : Same H H') : KDT K H' d B := let ⟨ts, h1, h2⟩ := h; ⟨ts, Rd.same h1 s, RpAll.same s h2⟩
theorem keyed_snoc : ∀ {ns : List Str} {ts : List V} {n : Str} {t : V}, ns.length = ts.length → keyed (ns ++ [n]) (ts ++ [t]) = keyed ns ts ++ [(Sum.inr n, t)]
  | [], [], _, _, _ => rfl
  | x :: ns, y :: ts, n, t, h => by
    show (Sum.inr x, y) :: keyed (ns ++ [n]) (ts ++ [t]) = _
    rw [keyed_snoc (by simpa using h)]
    rfl
  | [], _ :: _, _, _, h => by simp at h
  | _ :: _, [], _, _, h => by simp at h
abbrev sKindsOf : Stmt := top 39
def spKindsOf (K : PySem.W.Frag) : Sp := fun vs H Q _ => ∃ (p : Addr) (B : Bk), vs = [.ref p] ∧ Rp K H (.ref p) B.d ∧ BOk B ∧
  ∀ (d : Addr) (H' : Hp) (ts : List V), Same H H' → H d = none → H' d = some (.dK (keyed B.names ts)) → RpAll K H' ts (B.kinds.map Kd.tl) → Q (.ref d) H'
section
variable {P : Program} {w : World} {K : PySem.W.Frag} {mg : Str → Option Value} {base : Heap}
theorem scKindsOf : FnScope ["_law_rulebook_here", "_law_kind"] ["_law_rulebook_here"] (defScope sKindsOf) := ⟨rfl, rfl, rfl, by decide +kernel, rfl, by decide +kernel, by decide +kernel⟩
theorem ok_kindsOf {f : Addr} {fd : FuncData} (F : Fun K "_law_kinds_of" "_law_kinds_of" sKindsOf f fd) (zd : mg "dict" = none) : FnOk P w K mg base CX0 1 f fd ["_law_rulebook_here"] (spKindsOf K) := by
  refine F.ok scKindsOf (fun vs H Q E h => ?_) (fun cdv A outer s H vs Q E hr h => ?_)
  · obtain ⟨p, B, rfl, _⟩ := h
    rfl
  · obtain ⟨p, B, rfl, rp, ok, k⟩ := h
    have nd := scKindsOf.nd
    refine ⟨_, pss_one (ps_ret (pe_callTy (call_dictP rfl) (by rfl) zd (by decide +kernel) (pa_cons (pe_lc (own := [("_law_kind", 1)]) (g := gName 1) (tt := tYes) (te := tTup (tCons (tOp (rIxT K) (tVar 1) (tC (.int 0))) (tCons (tSl (rSlT K) (tVar 1) (tPart (tC (.int 1))) tNoPart) tNil))) rfl nd (pi_tup (pe_ix ix_tup (pv 0) pe_int (fun _ _ => rfl)))
      (blkOk_by (own := [("_law_kind", 1)]) (N := ["_law_rulebook_here", "_law_kind"]) (sc := defScope sKindsOf) (by decide +kernel)) (fun _ _ _ _ _ => pg_name (i := 1) nd rfl (Or.inl rfl)) (fun _ _ _ _ _ => pts_nil) (fun _ _ _ _ _ => pe_tup (pa_cons (pe_ix ix_tup (pv 1) pe_int (fun _ _ => rfl)) (pa_cons (pe_slice sl_tup (pv 1) (po_some pe_int) po_none) pa_nil)))) pa_nil))), ?_⟩
    obtain ⟨pr, pk, ks, hp, hpr, hpk, rks⟩ := Bk.rp_rows rp
    have lk : B.kinds.length = ks.length := by rw [rks.len, List.length_map]
    have lnm : B.names.length = ks.length := by unfold Bk.names; rw [rks.len, List.length_map, List.length_map]
    have lb := ok.len
    refine ⟨_, rfl, p, _, 1, .ref pk, rfl, rfl, SqT.of hp, atI_nat (j := 1) rfl, pk, rfl, ⟨_, SqT.of hpk⟩, fun Dx nD => ?_⟩
    refine lc_tup (xs := ks) (fun i H' => Same H H' ∧ ∃ (ps : List Addr) (ts : List V), H' Dx = some (.lst (ps.map V.ref)) ∧ ps.length = i ∧ ts.length = i ∧ RpAll K H' ts ((B.kinds.take i).map Kd.tl) ∧ Paired (fun p kv => H' p = some (.tup [kV kv.1, kv.2])) ps (keyed (B.names.take i) ts))
      ⟨same_put (Same.refl H) nD, [], [], upd_same, rfl, rfl, .nil, .nil⟩ (fun i H' _ z => SqT.of (z.1 _ _ hpk)) ?_ ?_
    · rintro i x H' hi ⟨s, ps, ts, hD, lp, lt, rt, pr⟩
      obtain ⟨kd, hk, rk⟩ := at_of rks hi
      obtain ⟨a, g, gvs, rfl, ha, hg, rg⟩ := Kd.rp rk
      have hn : B.names[i]? = some kd.name := by
        unfold Bk.names
        rw [List.getElem?_map, hk]
        rfl
      have il : i < 15 := by
        have := (List.getElem?_eq_some_iff.mp hk).1
        omega
      refine ⟨rfl, tyes_go ⟨_, rfl, a, _, 0, .str kd.name, rfl, rfl, SqT.of (s _ _ ha), atI_nat (j := 0) rfl, _, rfl, _, rfl, a, _, rfl, SqT.of (s _ _ ha), (by show ¬(HT.sIx 4 0 (some 1) = 0 ∧ HT.sIx 4 4 none = 4); decide), fun c nc => ⟨by show 2 ≤ sizeLine; decide, fun t nt => ?_⟩⟩⟩
      have ec : cutV [V.str kd.name, .int kd.keep, .int kd.bar, .ref g] (some 1) none = [.int kd.keep, .int kd.bar, .ref g] := rfl
      rw [ec] at nt ⊢
      have s0 : Same H' (upd H' c (.tup [.int kd.keep, .int kd.bar, .ref g])) := same_new (Same.refl H') nc
      have h0 : upd H' c (.tup [.int kd.keep, .int kd.bar, .ref g]) c = some (.tup [.int kd.keep, .int kd.bar, .ref g]) := upd_same
      generalize upd H' c (.tup [.int kd.keep, .int kd.bar, .ref g]) = H1 at s0 h0 nt
      have s1 : Same H1 (upd H1 t (.tup [.str kd.name, .ref c])) := same_new (Same.refl H1) nt
      have h1 : upd H1 t (.tup [.str kd.name, .ref c]) t = some (.tup [.str kd.name, .ref c]) := upd_same
      generalize upd H1 t (.tup [.str kd.name, .ref c]) = H2 at s1 h1
      have s01 := s0.trans s1
      have hD2 := s01 _ _ hD
      have T3 : Tups H2 (upd H2 Dx (.lst (ps.map V.ref ++ [.ref t]))) := Tups.put hD2
      have rc : Rp K H2 (.ref c) kd.tl := .tup (s1 _ _ h0) (.cons (.int _) (.cons (.int _) (.cons (.tup ((s.trans s01) _ _ hg) (RpAll.same (s.trans s01) rg)) .nil)))
      have e1 : (B.names.take (i + 1)) = B.names.take i ++ [kd.name] := by rw [List.take_succ, hn]; rfl
      have e2 : (B.kinds.take (i + 1)) = B.kinds.take i ++ [kd] := by rw [List.take_succ, hk]; rfl
      refine ⟨ps.map V.ref, hD2, by rw [List.length_map, lp, sizeLine_eq]; omega, same_put (s.trans s01) nD, ps ++ [t], ts ++ [.ref c], by rw [upd_same, List.map_append]; rfl, by rw [List.length_append, lp]; rfl, by rw [List.length_append, lt]; rfl, ?_, ?_⟩
      · rw [e2, List.map_append]
        exact (rt.tups ((Tups.same s01).trans T3) (flat_map tl_flat _)).append (.cons (Rp.tups T3 rc (tl_flat kd)) .nil)
      · rw [e1, keyed_snoc (by have := (List.getElem?_eq_some_iff.mp hn).1; rw [List.length_take, lt]; omega)]
        exact Paired.snoc (Paired.mapP pr fun p kv h => T3 _ _ (s01 _ _ h)) (T3 _ _ h1)
    · rintro H' ⟨s, ps, ts, hD, lp, lt, rt, pr⟩
      rw [← lk, List.take_length] at rt
      rw [← lnm, List.take_length] at pr
      have lz : B.names.length = ts.length := by omega
      refine ⟨Dx, ps, keyed B.names ts, rfl, SqL.of hD, Paired.mapP pr fun p kv h => SqT.of h, fun d nd' => ?_⟩
      rw [merge_nodup _ [] (by simpa using keyed_nodup lz ok.names.nd), List.nil_append]
      have s1 : Same H' (upd H' d (.dK (keyed B.names ts))) := same_new (Same.refl H') nd'
      exact k d _ ts (s.trans s1) (s.free nd') upd_same (RpAll.same s1 rt)
end
end Gy

namespace Gy
open PySem L2 PySem.Spec PyProof.Rows
/-! ### the law's own: is_met, bearing -/
theorem empty_dp {K : PySem.W.Frag} {H : Hp} {a : Addr} {ds : List D} {ys : List V} {n m : Nat} (h : H a = some (.lst ys)) (r : RpAll K H ys ds) (f : FineL ds n m) (hm : m + 1 ≤ 40) : Dp K H (.ref a) (.list (D.pyAll ds)) ∧ SeqAt.shaped (.list (D.pyAll ds)) = true ∧ PyData.eqv (.list (D.pyAll ds)) (.list []) = ds.isEmpty := by
  obtain ⟨f1, f2, _⟩ := f.lst.shaped hm
  refine ⟨(Rp.lst h r).dp f1, f2, ?_⟩
  cases ds with
  | nil => rfl
  | cons i is =>
    simp only [D.pyAll, PyData.eqv, PyData.eqvAll]
    rfl
def isK : Nd → Bool
  | .row _ _ _ => false
  | .knd _ _ _ _ => true
theorem nd_flat (n : Nd) : n.d.flat = true := by cases n <;> rfl
theorem met_empty {B : Bk} {ss : List Str} : ∀ g : List Nd, (((g.filter isK).filter fun n => !(metN B ss n)).map Nd.d).isEmpty = metG B ss g
  | [] => rfl
  | .row r t m :: g => met_empty g
  | .knd n a t m :: g => by
    have ih := met_empty (B := B) (ss := ss) g
    have e : (Nd.knd n a t m :: g).filter isK = .knd n a t m :: g.filter isK := rfl
    rw [e]
    show _ = (metN B ss (.knd n a t m) && metG B ss g)
    cases h : metN B ss (.knd n a t m) with
    | true =>
      rw [List.filter_cons, h, Bool.true_and]
      exact ih
    | false =>
      rw [List.filter_cons, h]
      rfl
theorem fine_nds {B : Bk} (ok : BOk B) {g : List Nd} (h : ∀ n ∈ g, n.ok B.rows B.names) : FineL (g.map Nd.d) (6 * g.length) 1 := by
  have q := FineL.of (ds := g.map Nd.d) (n := 6) (m := 1) fun d hd => by
    obtain ⟨x, hx, rfl⟩ := List.mem_map.mp hd
    exact Nd.fine (h x hx) ok.rows.mem ok.names.mem
  rw [List.length_map] at q
  exact q
abbrev sIsMet : Stmt := top 41
def spIsMet (K : PySem.W.Frag) : Sp := fun vs H Q _ => ∃ (d L : Addr) (v : V) (B : Bk) (g : List Nd) (ss : List Str), vs = [.ref d, .ref L, v] ∧ KDT K H d B ∧ BOk B ∧ SqQ H L (ss.map V.str) ∧ Rp K H v (gd g) ∧ GOk B.rows B.names 3 g ∧ ∀ H', Same H H' → Q (.bl (metG B ss g)) H'
theorem Ext.same {L : Addr} {H0 H H' : Hp} (s : Same H0 H) (e : Ext L H H') (n : H0 L = none) : Same H0 H' := fun a o h => e a o (fun z => by rw [z, n] at h; cases h) (s a o h)
section
variable {P : Program} {w : World} {K : PySem.W.Frag} {mg : Str → Option Value} {base : Heap}
theorem scIsMet : FnScope ["_law_kinds", "_law_found", "_law_ground_here", "_law_some_here", "_law_need_here"] ["_law_kinds", "_law_found", "_law_ground_here"] (defScope sIsMet) := ⟨rfl, rfl, rfl, by decide +kernel, rfl, by decide +kernel, by decide +kernel⟩
theorem ok_isMet {f : Addr} {fd : FuncData} (F : Fun K "_law_is_met" "_law_is_met" sIsMet f fd) : FnOk P w K mg base CX0 1 f fd ["_law_kinds", "_law_found", "_law_ground_here"] (spIsMet K) := by
  refine F.ok scIsMet (fun vs H Q E h => ?_) (fun cdv A outer s H vs Q E hr h => ?_)
  · obtain ⟨d, L, v, B, g, ss, rfl, _⟩ := h
    rfl
  · obtain ⟨d, L, v, B, g, ss, rfl, kd, ok, hL, rg, okg, kQ⟩ := h
    have nd := scIsMet.nd
    have hu := hr.units
    have hu0 := hu_of hr
    refine ⟨_, pss_cons (ps_setLc (i := 3) (own := [("_law_need_here", 4)]) (g := gName 4) (tt := tTest (tOp rEq (tOp (rIxT K) (tVar 4) (tC (.int 0))) (tC (.str "kind")))) (te := tVar 4) rfl nd rfl rfl (sw_true rfl rfl rfl (by decide +kernel)) (pi_tup (pv 2))
        (blkOk_by (own := [("_law_need_here", 4)]) (N := ["_law_kinds", "_law_found", "_law_ground_here", "_law_some_here", "_law_need_here"]) (sc := defScope sIsMet) (by decide +kernel)) (fun _ _ _ _ _ => pg_name (i := 4) nd rfl (Or.inl rfl))
        (fun _ _ _ _ _ => pts_one (pt_cmpR op_eq (pe_ix ix_tup (pv 4) pe_int (fun _ _ => rfl)) pe_str (nomark _))) (fun _ _ _ _ _ => pv 4))
      (pss_one (ps_ret (pe_cmpR (op_eqD hu) (pe_lc (own := [("_law_need_here", 4)]) (g := gName 4) (tt := tOr (tTest (tOp (rIn K true) (tOp (rIxT K) (tVar 4) (tC (.int 1))) (tVar 1))) (tTest (tOp (rI0 fun i j => .bl (decide (j ≤ i))) (tOp (rIxT K) (tVar 4) (tC (.int 2))) (tOp (rIxT K) (tDGet (tVar 0) (tOp (rIxT K) (tVar 4) (tC (.int 1)))) (tC (.int 0)))))) (te := tVar 4) rfl nd (pi_list (pv 3))
        (blkOk_by (own := [("_law_need_here", 4)]) (N := ["_law_kinds", "_law_found", "_law_ground_here", "_law_some_here", "_law_need_here"]) (sc := defScope sIsMet) (by decide +kernel)) (fun _ _ _ _ _ => pg_name (i := 4) nd rfl (Or.inl rfl))
        (fun _ _ _ _ _ => pts_one (PW.pt (pw_or (pt_cmpR op_notIn_seq (pe_ix ix_tup (pv 4) pe_int (fun _ _ => rfl)) (pv 1) (by rfl)) (pw_or1 (pt_cmpR op_ge (pe_ix ix_tup (pv 4) pe_int (fun _ _ => rfl)) (pe_ix ix_tup (pe_dget hu0 (pv 0) (pe_ix ix_tup (pv 4) pe_int (fun _ _ => rfl)) (fun _ _ => rfl)) pe_int (fun _ _ => rfl)) (nomark _)))))) (fun _ _ _ _ _ => pv 4)) (pe_lst pa_nil) (nomark _)))), ?_⟩
    obtain ⟨ga, nvs, rfl, hga, rn⟩ := gd_rp rg
    have ln : nvs.length = g.length := by rw [rn.len, List.length_map]
    have l3 := okg.len
    refine ⟨_, rfl, ga, rfl, ⟨_, SqT.of hga⟩, fun M nM => ?_⟩
    refine lc_filt (K := K) (walk_tup (xs := nvs)) g isK Nd.d ln.symm nd_flat nM (by omega) (fun H' s => SqT.of (s _ _ hga)) ?_ ?_
    · rintro j n x H4 H5 R Q' hj hn s4 ⟨rfl, hx⟩ kR kQ'
      obtain ⟨n', hn', rx⟩ := at_of rn hx
      have en : n = n' := by rw [hn] at hn'; exact Option.some.inj hn'
      subst en
      have rx4 := rx.same s4
      obtain ⟨u, rfl, hu⟩ := nd_rp rx4
      refine ⟨rfl, _, rfl, u, _, 0, .str n.word, rfl, rfl, SqT.of hu, atI_nat (j := 0) (vs0 n), rfl, _, rfl, ?_⟩
      rw [iskind]
      cases n with
      | row r t m => exact iteF (kR _ (Same.refl _) rfl)
      | knd r a t m => exact iteT ⟨_, rfl, kQ' _ _ (Same.refl _) rfl rx4⟩
    · intro H4 ys s4 hM rM
      try dsimp only
      show tRet _ _ [some (.ref d), some (.ref L), some (.ref ga), some (.ref M), none] H4
      have ly : ys.length = (g.filter isK).length := by rw [rM.len, List.length_map]
      have lle := List.length_filter_le isK g
      refine ⟨_, rfl, M, rfl, ⟨_, SqL.of hM⟩, fun M2 nM2 => ?_⟩
      refine lc_filt (K := K) (walk_list (xs := ys)) (g.filter isK) (fun n => !(metN B ss n)) Nd.d ly.symm nd_flat nM2 (by omega) (fun H' s => SqL.of (s _ _ hM)) ?_ ?_
      · rintro j n x H5 H6 R Q' hj hn s5 ⟨rfl, hx⟩ kR kQ'
        obtain ⟨n', hn', rx⟩ := at_of rM hx
        have en : n = n' := by rw [hn] at hn'; exact Option.some.inj hn'
        subst en
        have s45 := s4.trans s5
        have rx5 := rx.same s5
        obtain ⟨u, rfl, hu⟩ := nd_rp rx5
        have nin := List.mem_filter.mp (List.mem_of_getElem? hn)
        cases n with
        | row r t m => exact absurd nin.2 (by show ¬ (false = true); decide)
        | knd nm a t m =>
          have okn := okg.ok _ nin.1
          obtain ⟨k, hk, rfl⟩ := ok.kind okn.1
          refine ⟨rfl, _, rfl, u, _, 1, .str k.name, rfl, rfl, SqT.of hu, atI_nat (j := 1) rfl, _, rfl, in_read (hL.same s45) ⟨_, rfl, ?_⟩⟩
          have em : metN B ss (.knd k.name a t m) = (decide (k.name ∈ ss) && decide (a < k.keep)) := by
            show (decide (k.name ∈ ss) && decide (a < B.keepOf k.name)) = _
            rw [keepOf_at ok hk]
          rw [em] at kR kQ'
          show if (!decide (k.name ∈ ss)) = true then _ else _
          cases hin : decide (k.name ∈ ss) with
          | false =>
            rw [hin] at kR kQ'
            exact iteT (iteT ⟨_, rfl, kQ' _ _ (Same.refl _) (by rw [Bool.false_and]; rfl) rx5⟩)
          | true =>
            rw [hin, Bool.true_and] at kR kQ'
            obtain ⟨tv, htv, rtv⟩ := (kd.same s45).get ok hk
            obtain ⟨ta, tg, tgs, rfl, hta, htg, rtg⟩ := Kd.rp_tl rtv
            refine iteF ⟨_, rfl, u, _, 2, .int a, rfl, rfl, SqT.of hu, atI_nat (j := 2) rfl, _, rfl, _, rfl, u, _, 1, .str k.name, rfl, rfl, SqT.of hu, atI_nat (j := 1) rfl, d, .ref ta, rfl, htv, ta, _, 0, .int k.keep, rfl, rfl, SqT.of hta, atI_nat (j := 0) rfl, a, k.keep, rfl, rfl, _, rfl, ?_⟩
            by_cases hlt : a < k.keep
            · rw [decide_eq_false (by omega : ¬ k.keep ≤ a)]
              exact iteF (kR _ (Same.refl _) (by rw [decide_eq_true hlt]; rfl))
            · rw [decide_eq_true (by omega : k.keep ≤ a)]
              exact iteT ⟨_, rfl, kQ' _ _ (Same.refl _) (by rw [decide_eq_false hlt]; rfl) rx5⟩
      · intro H5 zs s5 hM2 rM2
        refine ⟨Nat.zero_le _, fun e ne => ?_⟩
        have s6 : Same H5 (upd H5 e (.lst [])) := same_new (Same.refl H5) ne
        have h6 : upd H5 e (.lst []) e = some (.lst []) := upd_same
        generalize upd H5 e (.lst []) = H6 at s6 h6
        obtain ⟨d1, d2, d3⟩ := empty_dp (s6 _ _ hM2) (RpAll.same s6 rM2) (fine_nds ok fun n hn => okg.ok n (List.mem_filter.mp (List.mem_filter.mp hn).1).1) (by decide)
        refine ⟨_, .list [], d1, .lst (SqL.of h6) .nil, d2, rfl, ?_⟩
        rw [d3, met_empty]
        exact kQ H6 ((s4.trans s5).trans s6)
end
end Gy

namespace Gy
open PySem L2 PySem.Spec PyProof.Rows
/-! ### the law's own: bearing -/
theorem SwB.nextK {B : Bk} {right : List Str → List Nd → Bool} {i j : Nat} {l0 l : List Str} {k : Kd} (h : SwB B right i l0 l (dnK B j)) (hk : B.kinds[j]? = some k) :
    SwB B right i l0 (l ++ (if (!decide (k.name ∈ l) && k.gs.any (right l)) = true then [k.name] else [])) (dnK B (j + 1)) := by
  refine (h.stepK (List.mem_of_getElem? hk) (fun k' _ => k' = k) _ (fun e => ?_) (fun e k' hk' g hg d r => ?_) fun _ => trivial).weaken ?_
  · simp only [Bool.and_eq_true, Bool.not_eq_true', decide_eq_false_iff_not] at e
    exact e
  · subst d
    simp only [Bool.and_eq_false_iff, Bool.not_eq_false', decide_eq_true_eq] at e
    rcases e with e | e
    · exact .inl e
    · exact absurd (List.any_eq_true.mpr ⟨g, hg, r⟩) (by rw [e]; decide)
  · rintro k' _ g _ ⟨j', hj', e⟩ _
    rcases Nat.lt_succ_iff_lt_or_eq.mp hj' with z | z
    · exact .inl ⟨j', z, e⟩
    · subst z
      rw [hk] at e
      exact .inr (Option.some.inj e).symm
theorem SwB.finK {B : Bk} {right : List Str → List Nd → Bool} {i : Nat} {l0 l : List Str} (h : SwB B right i l0 l (dnK B B.kinds.length)) : SwA B right (i + 1) l := h.fin fun k hk g _ _ => by
  obtain ⟨j, hj⟩ := List.getElem?_of_mem hk
  exact ⟨j, (List.getElem?_eq_some_iff.mp hj).1, hj⟩
theorem SwB.startK {B : Bk} {right : List Str → List Nd → Bool} {i : Nat} {l : List Str} (h : SwA B right i l) : SwB B right i l l (dnK B 0) := h.start.weaken fun k _ g _ ⟨j, hj, _⟩ _ => absurd hj (Nat.not_lt_zero j)
theorem filt_any (f : List Nd → Bool) : ∀ gs : List (List Nd), (!((gs.filter f).map fun _ => D.int 1).isEmpty) = gs.any f
  | [] => rfl
  | g :: gs => by
    have ih := filt_any f gs
    rw [List.filter_cons, List.any_cons]
    cases h : f g with
    | true => rfl
    | false =>
      rw [Bool.false_or, if_neg (by decide)]
      exact ih
theorem keyed_len {ns : List Str} {ts : List V} (h : ns.length = ts.length) : (keyed ns ts).length = ns.length := by
  unfold keyed
  rw [List.length_zipWith]
  omega
abbrev sBearing : Stmt := top 40
def spBearing (K : PySem.W.Frag) : Sp := fun vs H Q _ => ∃ (p : Addr) (B : Bk), vs = [.ref p] ∧ Rp K H (.ref p) B.d ∧ BOk B ∧
  ∀ (l : Addr) (H' : Hp) (ls : List Str), Same H H' → H l = none → H' l = some (.lst (ls.map V.str)) → ls.Perm B.bear → Q (.ref l) H'
section
variable {P : Program} {w : World} {K : PySem.W.Frag} {mg : Str → Option Value} {base : Heap}
theorem scBearing : FnScope ["_law_rulebook_here", "_law_kinds", "_law_found", "_law_turn", "_law_name", "_law_ground_here"] ["_law_rulebook_here"] (defScope sBearing) := ⟨rfl, rfl, rfl, by decide +kernel, rfl, by decide +kernel, by decide +kernel⟩
theorem ok_bearing {f : Addr} {fd : FuncData} (F : Fun K "_law_bearing" "_law_bearing" sBearing f fd) (zr : mg "range" = none) (zl : mg "len" = none) (zs : mg "sorted" = none) (CK : Cal P w K mg base 1 "_law_kinds_of" ["_law_rulebook_here"] (spKindsOf K)) (CM : Cal P w K mg base 1 "_law_is_met" ["_law_kinds", "_law_found", "_law_ground_here"] (spIsMet K)) : FnOk P w K mg base CX0 2 f fd ["_law_rulebook_here"] (spBearing K) := by
  refine F.ok scBearing (fun vs H Q E h => ?_) (fun cdv A outer s H vs Q E hr h => ?_)
  · obtain ⟨p, B, rfl, _⟩ := h
    rfl
  · obtain ⟨p, B, rfl, rp, ok, kQ⟩ := h
    have nd := scBearing.nd
    have hu := hr.units
    have hu0 := hu_of hr
    refine ⟨_, pss_cons (ps_asg (pe_tup (pa_cons (pe_cal CK hr rfl (pa_cons (pv 0) pa_nil)) (pa_cons (pe_lst pa_nil) pa_nil))) (pg_tup rfl (pgs_cons (pg_name (i := 1) nd rfl (Or.inr rfl)) (pgs_cons (pg_name (i := 2) nd rfl (Or.inr rfl)) pgs_nil))))
      (pss_cons (ps_for PassesOwn.never rfl (pi_range1 (by rfl) zr (pa_cons (pe_callB call_lenD (by rfl) zl PySem.boot_len (pa_cons (pv 1) pa_nil)) pa_nil)) (pg_name (i := 3) nd rfl (Or.inl rfl))
        (pss_one (ps_for PassesOwn.never rfl (pi_list (pe_callB (call_sortedD rfl) (by rfl) zs (by decide +kernel) (pa_cons (pv 1) pa_nil))) (pg_name (i := 4) nd rfl (Or.inl rfl))
          (pss_one (ps_if (PW.pt (pw_and (pt_cmpR op_notIn_seq (pv 4) (pv 2) (by rfl)) (pw_and1 (pt_cmpR (op_neD hu) (pe_lc (own := [("_law_ground_here", 5)]) (g := gName 5) (tt := tB (tCall (spIsMet K) [] E0 (tCons (tVar 1) (tCons (tVar 2) (tCons (tVar 5) tNil))))) (te := tC (.int 1)) rfl nd (pi_tup (pe_ix ix_tup (pe_dget hu0 (pv 1) (pv 4) (fun _ _ => rfl)) pe_int (fun _ _ => rfl)))
              (blkOk_by (own := [("_law_ground_here", 5)]) (N := ["_law_rulebook_here", "_law_kinds", "_law_found", "_law_turn", "_law_name", "_law_ground_here"]) (sc := defScope sBearing) (by decide +kernel)) (fun _ _ _ _ _ => pg_name (i := 5) nd rfl (Or.inl rfl)) (fun _ _ _ _ _ => pts_one (pt_val (pe_cal CM hr rfl (pa_cons (pv 1) (pa_cons (pv 2) (pa_cons (pv 5) pa_nil)))))) (fun _ _ _ _ _ => pe_int)) (pe_lst pa_nil) (nomark _)))))
            (pss_one (ps_expr (by exact (pe_bm PySem.F.plainAttrs_list PySem.F.slot_list_append PySem.F.type_list_append mt_append (pv 2) (pa_cons (pv 4) pa_nil))))) pss_nil)))))
      (pss_one (ps_ret (pv 2)))), ?_⟩
    have lb := ok.len
    refine ⟨_, rfl, p, B, rfl, rp, ok, fun d H1 ts s1 nd1 hd rts => ⟨Nat.zero_le _, fun L nL => ⟨by show 2 ≤ sizeLine; decide, fun t0 nt0 => ?_⟩⟩⟩
    have lnm : B.names.length = B.kinds.length := by unfold Bk.names; rw [List.length_map]
    have lts : B.names.length = ts.length := by rw [rts.len, List.length_map, lnm]
    have lkd : (keyed B.names ts).length = B.kinds.length := by rw [keyed_len lts, lnm]
    have kd : KDT K H1 d B := ⟨ts, .inl hd, rts⟩
    have s2 : Same H1 (upd H1 L (.lst [])) := same_new (Same.refl H1) nL
    have h2 : upd H1 L (.lst []) L = some (.lst (([] : List Str).map V.str)) := upd_same
    generalize upd H1 L (.lst []) = H2 at s2 h2 nt0
    have s2' : Same H2 (upd H2 t0 (.tup [.ref d, .ref L])) := same_new (Same.refl H2) nt0
    have h2' : upd H2 t0 (.tup [.ref d, .ref L]) t0 = some (.tup [.ref d, .ref L]) := upd_same
    generalize upd H2 t0 (.tup [.ref d, .ref L]) = H2' at s2' h2'
    have s2 := s2.trans s2'
    have h2 := s2' _ _ h2
    clear s2'
    refine ⟨t0, _, rfl, SqT.of h2', rfl, _, _, rfl, _, _, rfl, rfl, ?_⟩
    try dsimp only
    show tSeq _ _ _ [some (.ref p), some (.ref d), some (.ref L), none, none, none] H2'
    refine ⟨_, rfl, d, _, rfl, s2 _ _ hd, _, rfl, by omega, by omega, for_it (walk_range (lo := 0) (n := (((keyed B.names ts).length : Nat) : Int).toNat)) (fun i σ' H' => (∃ x3 x4 x5, σ' = [some (.ref p), some (.ref d), some (.ref L), x3, x4, x5]) ∧ Same H1 H' ∧ ∃ l, H' L = some (.lst (l.map V.str)) ∧ SwA B (metG B) i l)
      ⟨⟨_, _, _, rfl⟩, s2, [], h2, SwA.start0⟩ (fun _ _ _ _ _ => trivial) ?_ ?_⟩
    · rintro i x σ' H3' H3 hi ⟨⟨x3, x4, x5, rfl⟩, s3, l, hL, sw⟩ ⟨rfl, rfl⟩
      refine ⟨_, rfl, d, _, B.names, rfl, .inl (s3 _ _ hd), keyed_keys lts, by omega, fun ys W py sy nW => ?_⟩
      have ey : ys = B.names := sorted_one sy ok.names.asc py
      subst ey
      have WL : W ≠ L := fun z => by rw [z, hL] at nW; cases nW
      have s4 : Same H3 (upd H3 W (.lst (B.names.map V.str))) := same_new (Same.refl H3) nW
      have h4 : upd H3 W (.lst (B.names.map V.str)) W = some (.lst (B.names.map V.str)) := upd_same
      generalize upd H3 W (.lst (B.names.map V.str)) = H4 at s4 h4
      have s14 := s3.trans s4
      refine ⟨W, rfl, ⟨_, SqL.of h4⟩, for_list (xs := B.names.map V.str) (fun j σ' H' => (∃ x4 x5, σ' = [some (.ref p), some (.ref d), some (.ref L), some (.int (0 + (i : Int))), x4, x5]) ∧ Ext L H4 H' ∧ ∃ l', H' L = some (.lst (l'.map V.str)) ∧ SwB B (metG B) i l l' (dnK B j)) ⟨⟨_, _, rfl⟩, Ext.refl' L H4, l, s4 _ _ hL, SwB.startK sw⟩ (fun j σ' H' _ z => SqL.of (z.2.1 W _ WL h4)) ?_ ?_⟩
      · rintro j x σ' H5 hj ⟨⟨x4, x5, rfl⟩, e5, l', hL5, sw'⟩
        have s15 := Ext.same s14 e5 nL
        obtain ⟨nm, hnm, rfl⟩ : ∃ nm, B.names[j]? = some nm ∧ x = V.str nm := by
          rw [List.getElem?_map] at hj
          cases z : B.names[j]? with
          | none => rw [z] at hj; cases hj
          | some nm => rw [z] at hj; exact ⟨nm, rfl, (Option.some.inj hj).symm⟩
        obtain ⟨k, hkj, rfl⟩ : ∃ k, B.kinds[j]? = some k ∧ k.name = nm := by
          unfold Bk.names at hnm
          rw [List.getElem?_map] at hnm
          cases z : B.kinds[j]? with
          | none => rw [z] at hnm; cases hnm
          | some k => rw [z] at hnm; exact ⟨k, rfl, Option.some.inj hnm⟩
        have hk := List.mem_of_getElem? hkj
        have nx := sw'.nextK hkj
        have ll' := sw'.len ok
        refine ⟨_, rfl, _, rfl, in_read (neg := true) (.inl hL5) ⟨_, rfl, ?_⟩⟩
        show if (!decide (k.name ∈ l')) = true then _ else _
        refine ite2 (fun e1 => ?_) fun e1 => ?_
        · obtain ⟨tv, htv, rtv⟩ := (kd.same s15).get ok hk
          obtain ⟨ta, tg, tgs, rfl, hta, htg, rtg⟩ := Kd.rp_tl rtv
          have ltg : tgs.length = k.gs.length := by rw [rtg.len, List.length_map]
          have lg4 := (ok.kinds k hk).len
          refine ⟨_, rfl, _, rfl, d, .ref ta, rfl, htv, ta, _, 2, .ref tg, rfl, rfl, SqT.of hta, atI_nat (j := 2) rfl, tg, rfl, ⟨_, SqT.of htg⟩, fun Dx nD => ?_⟩
          refine lc_filt (K := K) (walk_tup (xs := tgs)) k.gs (metG B l') (fun _ => D.int 1) ltg.symm (fun _ => rfl) nD (by omega) (fun H' s => SqT.of (s _ _ htg)) ?_ ?_
          · rintro m gr x H6 H7 R Q' hm hgr s6 ⟨rfl, hx⟩ kR kQ'
            obtain ⟨gr', hgr', rx⟩ := at_of rtg hx
            have en : gr = gr' := by rw [hgr] at hgr'; exact Option.some.inj hgr'
            subst en
            refine ⟨rfl, _, rfl, _, rfl, _, rfl, d, L, x, B, gr, l', rfl, kd.same (s15.trans s6), ok, .inl (s6 _ _ hL5), rx.same s6, (ok.kinds k hk).gs gr (List.mem_of_getElem? hgr), fun H8 s8 => ⟨_, rfl, ite2 (fun e => ?_) fun e => ?_⟩⟩
            · exact kQ' _ _ s8 e (.int _)
            · exact kR _ s8 (by simpa using e)
          · intro H6 zs s6 hM r
            refine ⟨Nat.zero_le _, fun e ne => ?_⟩
            have s7 : Same H6 (upd H6 e (.lst [])) := same_new (Same.refl H6) ne
            have h7 : upd H6 e (.lst []) e = some (.lst []) := upd_same
            generalize upd H6 e (.lst []) = H7 at s7 h7
            have fl := FineL.of (ds := ((k.gs.filter (metG B l')).map fun _ => D.int 1)) (n := 1) (m := 0) fun d hd => by
              obtain ⟨x, _, rfl⟩ := List.mem_map.mp hd
              exact fine_int (by decide) (by decide)
            obtain ⟨d1, d2, d3⟩ := empty_dp (s7 _ _ hM) (RpAll.same s7 r) fl (by decide)
            have s57 := s6.trans s7
            have hL7 := s57 _ _ hL5
            have e7 : Ext L H4 H7 := e5.trans' fun a o _ h => s57 a o h
            refine ⟨_, .list [], d1, .lst (SqL.of h7) .nil, d2, rfl, ?_⟩
            rw [d3, filt_any]
            refine ⟨_, rfl, ite2 (fun e2 => ?_) fun e2 => ?_⟩
            · rw [e1, e2, Bool.and_self, if_pos rfl] at nx
              refine ⟨_, rfl, .inl ⟨rfl, _, SqL.of hL7⟩, _, rfl, L, _, .str k.name, rfl, rfl, hL7, by rw [List.length_map, sizeLine_eq]; omega, ⟨_, _, rfl⟩, e7.trans' (Ext.put (Ext.refl' L H7)), l' ++ [k.name], ?_, nx⟩
              rw [upd_same, List.map_append]
              rfl
            · have e2' : k.gs.any (metG B l') = false := by simpa using e2
              rw [e2', Bool.and_false, if_neg (by decide), List.append_nil] at nx
              exact ⟨⟨_, _, rfl⟩, e7, l', hL7, nx⟩
        · have e1' : (!decide (k.name ∈ l')) = false := by simpa using e1
          rw [e1', Bool.false_and, if_neg (by decide), List.append_nil] at nx
          exact ⟨⟨_, _, rfl⟩, e5, l', hL5, nx⟩
      · rintro σ' H5 ⟨⟨x4, x5, rfl⟩, e5, l', hL5, sw'⟩
        rw [List.length_map, lnm] at sw'
        exact ⟨⟨_, _, _, rfl⟩, Ext.same s14 e5 nL, l', hL5, sw'.finK⟩
    · rintro σ' H' ⟨⟨x3, x4, x5, rfl⟩, s, l, hL, sw⟩
      have ez : (((keyed B.names ts).length : Nat) : Int).toNat = B.kinds.length := by rw [lkd]; rfl
      rw [ez] at sw
      exact ⟨_, rfl, kQ L H' l (s1.trans s) (s1.free nL) hL (sw.all ok (metG_mono B))⟩
end
end Gy

namespace Gy
open PySem L2 PySem.Spec PyProof.Rows
/-! ### the law's own: live -/
theorem not_in_take {α : Type} {l : List α} {j : Nat} {x : α} (nd : l.Nodup) (h : l[j]? = some x) : x ∉ l.take j := by
  have e : l = l.take j ++ l.drop j := (List.take_append_drop j l).symm
  have hm : x ∈ l.drop j := by
    have : (l.drop j)[0]? = some x := by rw [List.getElem?_drop]; exact h
    exact List.mem_of_getElem? this
  rw [e, List.nodup_append] at nd
  exact fun hx => nd.2.2 x hx x hm rfl
/-- the dict of the live grounds' lists -/
def KL (H : Hp) (d : Addr) (B : Bk) : Prop := ∃ as : List Addr, Rd H d (.dK (keyed B.names (as.map V.ref))) ∧ as.length = B.kinds.length ∧ ∀ (i : Nat) (k : Kd) (a : Addr), B.kinds[i]? = some k → as[i]? = some a → H a = some (.lst ((liveL B B.bear k.gs).map fun i : Nat => V.int i))
theorem KL.same {H H' : Hp} {d : Addr} {B : Bk} (h : KL H d B) (s : Same H H') : KL H' d B := let ⟨as, h1, h2, h3⟩ := h; ⟨as, Rd.same h1 s, h2, fun i k a hk ha => s _ _ (h3 i k a hk ha)⟩
theorem KL.get {H : Hp} {d : Addr} {B : Bk} (h : KL H d B) (ok : BOk B) {k : Kd} (hk : k ∈ B.kinds) : ∃ a, DGet H d (.str k.name) (some (.ref a)) ∧ H a = some (.lst ((liveL B B.bear k.gs).map fun i : Nat => V.int i)) := by
  obtain ⟨as, hd, la, r⟩ := h
  obtain ⟨i, hi⟩ := List.getElem?_of_mem hk
  have il := (List.getElem?_eq_some_iff.mp hi).1
  have hn : B.names[i]? = some k.name := by
    unfold Bk.names
    rw [List.getElem?_map, hi]
    rfl
  have l : B.names.length = (as.map V.ref).length := by
    unfold Bk.names
    rw [List.length_map, List.length_map, la]
  have ha : as[i]? = some (as[i]'(by omega)) := List.getElem?_eq_getElem (by omega)
  have ha' : (as.map V.ref)[i]? = some (.ref (as[i]'(by omega))) := by rw [List.getElem?_map, ha]; rfl
  have q := val_self (keyed_nodup l ok.names.nd) _ (List.mem_of_getElem? (keyed_at hn ha'))
  refine ⟨_, ?_, r i k _ hi ha⟩
  rw [← q]
  exact .inl ⟨_, Sum.inr k.name, hd, rfl, rfl⟩
theorem name_at {B : Bk} {j : Nat} {x : V} (hj : (B.names.map V.str)[j]? = some x) : ∃ k, B.kinds[j]? = some k ∧ x = V.str k.name := by
  unfold Bk.names at hj
  rw [List.map_map, List.getElem?_map] at hj
  cases z : B.kinds[j]? with
  | none => rw [z] at hj; cases hj
  | some k => rw [z] at hj; exact ⟨k, rfl, (Option.some.inj hj).symm⟩
abbrev sLive : Stmt := top 42
def spLive (K : PySem.W.Frag) : Sp := fun vs H Q _ => ∃ (p : Addr) (B : Bk), vs = [.ref p] ∧ Rp K H (.ref p) B.d ∧ BOk B ∧
  ∀ (d : Addr) (H' : Hp), Same H H' → H d = none → KL H' d B → Q (.ref d) H'
section
variable {P : Program} {w : World} {K : PySem.W.Frag} {mg : Str → Option Value} {base : Heap}
theorem scLive : FnScope ["_law_rulebook_here", "_law_kinds", "_law_bearing_here", "_law_found", "_law_name", "_law_grounds", "_law_k"] ["_law_rulebook_here"] (defScope sLive) := ⟨rfl, rfl, rfl, by decide +kernel, rfl, by decide +kernel, by decide +kernel⟩
theorem ok_live {f : Addr} {fd : FuncData} (F : Fun K "_law_live" "_law_live" sLive f fd) (zr : mg "range" = none) (zl : mg "len" = none) (zs : mg "sorted" = none) (CK : Cal P w K mg base 1 "_law_kinds_of" ["_law_rulebook_here"] (spKindsOf K)) (CM : Cal P w K mg base 1 "_law_is_met" ["_law_kinds", "_law_found", "_law_ground_here"] (spIsMet K)) (CB : Cal P w K mg base 2 "_law_bearing" ["_law_rulebook_here"] (spBearing K)) : FnOk P w K mg base CX0 3 f fd ["_law_rulebook_here"] (spLive K) := by
  refine F.ok scLive (fun vs H Q E h => ?_) (fun cdv A outer s H vs Q E hr h => ?_)
  · obtain ⟨p, B, rfl, _⟩ := h
    rfl
  · obtain ⟨p, B, rfl, rp, ok, kQ⟩ := h
    have nd := scLive.nd
    have hu := hr.units
    have hu0 := hu_of hr
    have hr1 := hr.mono (by decide : 1 ≤ 2)
    refine ⟨_, pss_cons (ps_asg (pe_tup (pa_cons (pe_cal CK hr1 rfl (pa_cons (pv 0) pa_nil)) (pa_cons (pe_cal CB hr rfl (pa_cons (pv 0) pa_nil)) pa_nil))) (pg_tup rfl (pgs_cons (pg_name (i := 1) nd rfl (Or.inr rfl)) (pgs_cons (pg_name (i := 2) nd rfl (Or.inr rfl)) pgs_nil))))
      (pss_cons (ps_set (i := 3) nd rfl (Or.inl rfl) pe_dnewK)
      (pss_cons (ps_for PassesOwn.never rfl (pi_list (pe_callB (call_sortedD rfl) (by rfl) zs (by decide +kernel) (pa_cons (pv 1) pa_nil))) (pg_name (i := 4) nd rfl (Or.inl rfl))
        (pss_cons (ps_set (i := 5) nd rfl (Or.inr rfl) (pe_ix ix_tup (pe_dget hu0 (pv 1) (pv 4) (fun _ _ => rfl)) pe_int (fun _ _ => rfl)))
        (pss_one (ps_asg (pe_lc (own := [("_law_k", 6)]) (g := gName 6) (tt := tB (tCall (spIsMet K) [] E0 (tCons (tVar 1) (tCons (tVar 2) (tCons (tOp (rIxT K) (tVar 5) (tVar 6)) tNil))))) (te := tVar 6) rfl nd (pi_range1 (by rfl) zr (pa_cons (pe_callB call_len_seq (by rfl) zl PySem.boot_len (pa_cons (pv 5) pa_nil)) pa_nil))
            (blkOk_by (own := [("_law_k", 6)]) (N := ["_law_rulebook_here", "_law_kinds", "_law_bearing_here", "_law_found", "_law_name", "_law_grounds", "_law_k"]) (sc := defScope sLive) (by decide +kernel)) (fun _ _ _ _ _ => pg_name (i := 6) nd rfl (Or.inl rfl)) (fun _ _ _ _ _ => pts_one (pt_val (pe_cal CM hr1 rfl (pa_cons (pv 1) (pa_cons (pv 2) (pa_cons (pe_ix ix_tup (pv 5) (pv 6) (fun _ _ => rfl)) pa_nil)))))) (fun _ _ _ _ _ => pv 6)) (pg_sub (pv 3) (pv 4) (set_dict hu0))))))
      (pss_one (ps_ret (pv 3))))), ?_⟩
    have lb := ok.len
    refine ⟨_, rfl, p, B, rfl, rp, ok, fun d H1 ts s1 nd1 hd rts => ⟨_, rfl, p, B, rfl, rp.same s1, ok, fun E' H2 ls s2 nE hE pE => ⟨by show 2 ≤ sizeLine; decide, fun t0 nt0 => ?_⟩⟩⟩
    have lnm : B.names.length = B.kinds.length := by unfold Bk.names; rw [List.length_map]
    have lts : B.names.length = ts.length := by rw [rts.len, List.length_map, lnm]
    have s3 : Same H2 (upd H2 t0 (.tup [.ref d, .ref E'])) := same_new (Same.refl H2) nt0
    have h3 : upd H2 t0 (.tup [.ref d, .ref E']) t0 = some (.tup [.ref d, .ref E']) := upd_same
    generalize upd H2 t0 (.tup [.ref d, .ref E']) = H3 at s3 h3
    have s23 := s2.trans s3
    have kd : KDT K H3 d B := ⟨ts, .inl (s23 _ _ hd), RpAll.same s23 rts⟩
    have hd3 := s23 _ _ hd
    have hE3 := s3 _ _ hE
    have emet : metG B ls = metG B B.bear := metG_same (SameL.perm pE)
    have sH3 := s1.trans s23
    refine ⟨t0, _, rfl, SqT.of h3, rfl, _, _, rfl, _, _, rfl, rfl, fun Fd nF => ?_⟩
    try dsimp only
    show tSeq _ _ _ [some (.ref p), some (.ref d), some (.ref E'), some (.ref Fd), none, none, none] _
    have s4 : Same H3 (upd H3 Fd (.dK [])) := same_new (Same.refl H3) nF
    have h4 : upd H3 Fd (.dK []) Fd = some (.dK []) := upd_same
    generalize upd H3 Fd (.dK []) = H4 at s4 h4
    refine ⟨_, rfl, d, _, B.names, rfl, .inl (s4 _ _ hd3), keyed_keys lts, by omega, fun ys W py sy nW => ?_⟩
    have ey : ys = B.names := sorted_one sy ok.names.asc py
    subst ey
    have WF : W ≠ Fd := fun z => by rw [z, h4] at nW; cases nW
    have s5 : Same H4 (upd H4 W (.lst (B.names.map V.str))) := same_new (Same.refl H4) nW
    have h5 : upd H4 W (.lst (B.names.map V.str)) W = some (.lst (B.names.map V.str)) := upd_same
    generalize upd H4 W (.lst (B.names.map V.str)) = H5 at s5 h5
    have s35 := s4.trans s5
    refine ⟨W, rfl, ⟨_, SqL.of h5⟩, for_list (xs := B.names.map V.str) (fun j σ' H' => (∃ x4 x5, σ' = [some (.ref p), some (.ref d), some (.ref E'), some (.ref Fd), x4, x5, none]) ∧ Ext Fd H5 H' ∧ ∃ as : List Addr, H' Fd = some (.dK (keyed (B.names.take j) (as.map V.ref))) ∧ as.length = j ∧ ∀ (i : Nat) (k : Kd) (a : Addr), B.kinds[i]? = some k → as[i]? = some a → H' a = some (.lst ((liveL B B.bear k.gs).map fun i : Nat => V.int i)))
      ⟨⟨_, _, rfl⟩, Ext.refl' Fd H5, [], s5 _ _ h4, rfl, fun i k a _ ha => by simp at ha⟩ (fun j σ' H' _ z => SqL.of (z.2.1 W _ WF h5)) ?_ ?_⟩
    · rintro j x σ' H6 hj ⟨⟨x4, x5, rfl⟩, e6, as, hF6, la, ra⟩
      have s36 := Ext.same s35 e6 nF
      obtain ⟨k, hkj, rfl⟩ := name_at hj
      have hk := List.mem_of_getElem? hkj
      have hnj : B.names[j]? = some k.name := by unfold Bk.names; rw [List.getElem?_map, hkj]; rfl
      have jl := (List.getElem?_eq_some_iff.mp hkj).1
      obtain ⟨tv, htv, rtv⟩ := (kd.same s36).get ok hk
      obtain ⟨ta, tg, tgs, rfl, hta, htg, rtg⟩ := Kd.rp_tl rtv
      have ltg : tgs.length = k.gs.length := by rw [rtg.len, List.length_map]
      have lg4 := (ok.kinds k hk).len
      refine ⟨_, rfl, _, rfl, d, .ref ta, rfl, htv, ta, _, 2, .ref tg, rfl, rfl, SqT.of hta, atI_nat (j := 2) rfl, ?_⟩
      try dsimp only
      show tAsg _ _ _ [some (.ref p), some (.ref d), some (.ref E'), some (.ref Fd), some (.str k.name), some (.ref tg), none] H6
      refine ⟨_, rfl, tg, tgs, rfl, .inr (SqT.of htg), _, rfl, by omega, by omega, fun Dx nD => ?_⟩
      refine lc_filt (K := K) (walk_range (lo := 0) (n := ((tgs.length : Nat) : Int).toNat)) (List.range tgs.length) (fun i => metG B B.bear (k.gs.getD i [])) (fun i : Nat => D.int i) (by rw [List.length_range]; rfl) (fun _ => rfl) nD (by show tgs.length ≤ 100000; omega) (fun _ _ => trivial) ?_ ?_
      · rintro m a x H8 H7 R Q' hm ha s7 ⟨rfl, rfl⟩ kR kQ'
        have ml : m < tgs.length := hm
        have ea : m = a := by
          rw [List.getElem?_range ml] at ha
          exact Option.some.inj ha
        subst ea
        obtain ⟨gr, hgr⟩ : ∃ gr, k.gs[m]? = some gr := ⟨_, List.getElem?_eq_getElem (by omega)⟩
        obtain ⟨x, hx, rx⟩ := at_to rtg hgr
        have s37 := s36.trans s7
        have ez : (0 : Int) + ((m : Nat) : Int) = (m : Nat) := Int.zero_add _
        rw [getD_of hgr] at kR kQ'
        refine ⟨rfl, _, rfl, _, rfl, _, rfl, _, rfl, tg, _, 0 + (m : Int), x, rfl, rfl, SqT.of (s7 _ _ htg), (by rw [ez]; exact atI_nat hx), d, E', x, B, gr, ls, rfl, kd.same s37, ok, .inl (s37 _ _ hE3), rx.same s7, (ok.kinds k hk).gs gr (List.mem_of_getElem? hgr), fun H8 s8 => ⟨_, rfl, ?_⟩⟩
        rw [emet]
        refine ite2 (fun e => ?_) fun e => ?_
        · exact ⟨_, rfl, kQ' _ _ s8 e (rp_z m)⟩
        · exact kR _ s8 (by simpa using e)
      · intro H7 zs s7 hD r
        have e := rp_nats r
        subst e
        rw [ltg] at hD
        have hF7 := s7 _ _ hF6
        have DF : Dx ≠ Fd := fun z => by rw [z, hF7] at hD; cases hD
        have lkk : (B.names.take j).length = (as.map V.ref).length := by rw [List.length_take, List.length_map, la]; omega
        have lk : (keyed (B.names.take j) (as.map V.ref)).length = j := by rw [keyed_len lkk, List.length_take]; omega
        refine ⟨_, rfl, _, rfl, Fd, _, rfl, DPut.k (k := Sum.inr k.name) hF7 (by rw [lk, sizeLine_eq]; omega), ⟨_, _, rfl⟩, (e6.trans' fun a o _ h => s7 a o h).trans' (Ext.put (Ext.refl' Fd H7)), as ++ [Dx], ?_, by rw [List.length_append, la]; rfl, ?_⟩
        · have hni : (Sum.inr k.name : Key) ∉ (keyed (B.names.take j) (as.map V.ref)).map (·.1) := by
            rw [keyed_keys lkk]
            intro hm
            obtain ⟨y, hy, ey⟩ := List.mem_map.mp hm
            cases ey
            exact not_in_take ok.names.nd hnj hy
          rw [upd_same, put_new hni, List.map_append, List.take_succ, hnj]
          show _ = some (HO.dK (keyed (B.names.take j ++ [k.name]) (as.map V.ref ++ [.ref Dx])))
          rw [keyed_snoc lkk]
        · intro i k' a hk' ha
          by_cases il : i < as.length
          · rw [List.getElem?_append_left il] at ha
            have q := s7 _ _ (ra i k' a hk' ha)
            rw [upd_ne (fun z => by rw [z, hF7] at q; cases q)]
            exact q
          · have ij : i = as.length := by
              have := (List.getElem?_eq_some_iff.mp ha).1
              rw [List.length_append, List.length_singleton] at this
              omega
            subst ij
            rw [List.getElem?_append_right (Nat.le_refl _), Nat.sub_self] at ha
            cases ha
            rw [la, hkj] at hk'
            cases hk'
            rw [upd_ne DF]
            exact hD
    · rintro σ' H6 ⟨⟨x4, x5, rfl⟩, e6, as, hF6, la, ra⟩
      rw [List.length_map] at hF6 la
      rw [List.take_length] at hF6
      refine ⟨_, rfl, kQ Fd H6 (sH3.trans (Ext.same s35 e6 nF)) (sH3.free nF) ⟨as, .inl hF6, by rw [la, lnm], ra⟩⟩
end
end Gy

namespace Gy
open PySem L2 PySem.Spec PyProof.Rows
/-! ### sweeps ground by ground -/
def dnG (B : Bk) (j : Nat) (kd : Kd) (is : List Nat) : Kd → List Nd → Prop := fun k g => dnK B j k g ∨ (k = kd ∧ ∃ t ∈ is, kd.gs[t]? = some g)
theorem SwB.startG {B : Bk} {right : List Str → List Nd → Bool} {i j : Nat} {l0 l : List Str} {kd : Kd} (h : SwB B right i l0 l (dnK B j)) : SwB B right i l0 l (dnG B j kd []) := h.weaken fun k _ g _ d _ => by
  rcases d with d | ⟨_, t, ht, _⟩
  · exact d
  · cases ht
theorem SwB.nextG {B : Bk} {right : List Str → List Nd → Bool} {i j t : Nat} {l0 l : List Str} {kd : Kd} {g : List Nd} {is : List Nat} (h : SwB B right i l0 l (dnG B j kd is)) (hk : kd ∈ B.kinds) (hg : kd.gs[t]? = some g) :
    SwB B right i l0 (l ++ (if (right l g && !decide (kd.name ∈ l)) = true then [kd.name] else [])) (dnG B j kd (is ++ [t])) := by
  refine (h.stepK hk (fun k' g' => k' = kd ∧ g' = g) _ (fun e => ?_) (fun e k' hk' g' hg' d r => ?_) fun _ => trivial).weaken ?_
  · simp only [Bool.and_eq_true, Bool.not_eq_true', decide_eq_false_iff_not] at e
    exact ⟨e.2, List.any_eq_true.mpr ⟨g, List.mem_of_getElem? hg, e.1⟩⟩
  · obtain ⟨rfl, rfl⟩ := d
    simp only [Bool.and_eq_false_iff, Bool.not_eq_false', decide_eq_true_eq] at e
    rcases e with e | e
    · rw [e] at r
      cases r
    · exact .inl e
  · rintro k' _ g' _ d _
    rcases d with d | ⟨rfl, t', ht', hg'⟩
    · exact .inl (.inl d)
    · rcases List.mem_append.mp ht' with z | z
      · exact .inl (.inr ⟨rfl, t', z, hg'⟩)
      · rw [List.mem_singleton.mp z, hg] at hg'
        exact .inr ⟨rfl, (Option.some.inj hg').symm⟩
theorem live_mem {B : Bk} {be : List Str} {gs : List (List Nd)} {t : Nat} (h : t ∈ liveL B be gs) : ∃ g, gs[t]? = some g ∧ metG B be g = true := by
  unfold liveL at h
  obtain ⟨h1, h2⟩ := List.mem_filter.mp h
  have tl := List.mem_range.mp h1
  have e := List.getElem?_eq_getElem tl
  rw [getD_of e] at h2
  exact ⟨_, e, h2⟩
theorem mem_live {B : Bk} {be : List Str} {gs : List (List Nd)} {t : Nat} {g : List Nd} (h : gs[t]? = some g) (m : metG B be g = true) : t ∈ liveL B be gs := by
  unfold liveL
  refine List.mem_filter.mpr ⟨List.mem_range.mpr (List.getElem?_eq_some_iff.mp h).1, ?_⟩
  rw [getD_of h]
  exact m
theorem SwB.finG {B : Bk} {right : List Str → List Nd → Bool} {i j : Nat} {l0 l be : List Str} {kd : Kd} (h : SwB B right i l0 l (dnG B j kd (liveL B be kd.gs))) (hk : B.kinds[j]? = some kd) (hm : ∀ g, right l0 g = true → metG B be g = true) : SwB B right i l0 l (dnK B (j + 1)) :=
  h.weaken fun k _ g hg ⟨j', hj', e⟩ r => by
    rcases Nat.lt_succ_iff_lt_or_eq.mp hj' with z | z
    · exact .inl ⟨j', z, e⟩
    · subst z
      rw [hk] at e
      cases e
      obtain ⟨t, ht⟩ := List.getElem?_of_mem hg
      exact .inr ⟨rfl, t, mem_live ht (hm g r), ht⟩
theorem live_len (B : Bk) (be : List Str) (gs : List (List Nd)) : (liveL B be gs).length ≤ gs.length := filter_range_le _ _
theorem nat_at {is : List Nat} {m : Nat} {x : V} (h : (is.map fun i : Nat => V.int i)[m]? = some x) : ∃ t, is[m]? = some t ∧ x = .int t := by
  rw [List.getElem?_map] at h
  cases z : is[m]? with
  | none => rw [z] at h; cases h
  | some t => rw [z] at h; exact ⟨t, rfl, (Option.some.inj h).symm⟩
theorem take_snoc {α : Type} {l : List α} {m : Nat} {x : α} (h : l[m]? = some x) : l.take (m + 1) = l.take m ++ [x] := by
  rw [List.take_succ, h]
  rfl
theorem rep1 {v : V} (q : Bool) : (List.replicate ((if q = true then (1 : Int) else 0).toNat) [v]).flatten = if q = true then [v] else [] := by cases q <;> rfl
theorem filt_all (f : Nd → Bool) : ∀ g : List Nd, (g.filter fun n => !(f n)).isEmpty = g.all f
  | [] => rfl
  | n :: g => by
    have ih := filt_all f g
    rw [List.filter_cons, List.all_cons]
    cases h : f n with
    | true => rw [if_neg (by decide), Bool.true_and]; exact ih
    | false => rfl
theorem filt_none (f : Nd → Bool) : ∀ g : List Nd, (g.filter f).isEmpty = !(g.any f)
  | [] => rfl
  | n :: g => by
    have ih := filt_none f g
    rw [List.filter_cons, List.any_cons]
    cases h : f n with
    | false => rw [if_neg (by decide), Bool.false_or]; exact ih
    | true => rfl
theorem isEmpty_map {α β : Type} (f : α → β) : ∀ l : List α, (l.map f).isEmpty = l.isEmpty
  | [] => rfl
  | _ :: _ => rfl
theorem isEmpty_app {α : Type} : ∀ l m : List α, (l ++ m).isEmpty = (l.isEmpty && m.isEmpty)
  | [], _ => rfl
  | _ :: _, _ => rfl
/-! ### the law's own: forced -/
abbrev sForced2 : Stmt := top 44
def spForced2 (K : PySem.W.Frag) : Sp := fun vs H Q _ => ∃ (v : V) (S C : Addr) (g : List Nd) (st cl : List Str), vs = [.ref S, .ref C, v] ∧ Rp K H v (gd g) ∧ g.length ≤ 3 ∧ SqQ H S (st.map V.str) ∧ SqQ H C (cl.map V.str) ∧
  ∀ l H', Same H H' → H l = none → H' l = some (.lst ((places (forcedN st cl) g).map fun i : Nat => V.int i)) → Q (.ref l) H'
abbrev teFree (K : PySem.W.Frag) : TE := tIf (tTest (tOp rEq (tOp (rIxT K) (tOp (rIxT K) (tVar 2) (tVar 4)) (tC (.int 0))) (tC (.str "row")))) (tOp (rIn K true) (tOp (rIxT K) (tOp (rIxT K) (tVar 2) (tVar 4)) (tC (.int 1))) (tVar 0)) (tOp (rIn K false) (tOp (rIxT K) (tOp (rIxT K) (tVar 2) (tVar 4)) (tC (.int 1))) (tVar 1))
theorem free_read {K : PySem.W.Frag} {σ : L2.St} {H : Hp} {Q : VK} {ga S C : Addr} {nvs : List V} {j : Int} {v : V} {n : Nd} {st cl : List Str} (h2 : σ[2]? = some (some (.ref ga))) (h4 : σ[4]? = some (some (.int j))) (h0 : σ[0]? = some (some (.ref S))) (h1 : σ[1]? = some (some (.ref C)))
    (hga : H ga = some (.tup nvs)) (hv : atI nvs j = some v) (rn : Rp K H v n.d) (hS : SqQ H S (st.map V.str)) (hC : SqQ H C (cl.map V.str)) (q : Q (.bl (!(forcedN st cl n))) H) : teFree K σ H Q := by
  obtain ⟨u, rfl, hu⟩ := nd_rp rn
  refine ⟨_, h2, _, h4, ga, _, _, _, rfl, rfl, SqT.of hga, hv, u, _, 0, .str n.word, rfl, rfl, SqT.of hu, atI_nat (j := 0) (vs0 n), rfl, _, rfl, ?_⟩
  rw [isrow]
  cases n with
  | row r t m => exact iteT ⟨_, h2, _, h4, ga, _, _, _, rfl, rfl, SqT.of hga, hv, u, _, 1, .str r, rfl, rfl, SqT.of hu, atI_nat (j := 1) rfl, _, h0, in_read (neg := true) hS q⟩
  | knd r a t m =>
    have e : (!(forcedN st cl (.knd r a t m))) = decide (r ∈ cl) := Bool.not_not _
    rw [e] at q
    exact iteF ⟨_, h2, _, h4, ga, _, _, _, rfl, rfl, SqT.of hga, hv, u, _, 1, .str r, rfl, rfl, SqT.of hu, atI_nat (j := 1) rfl, _, h1, in_read (neg := false) hC q⟩
section
variable {P : Program} {w : World} {K : PySem.W.Frag} {mg : Str → Option Value} {base : Heap}
theorem scForced2 : FnScope ["_law_struck", "_law_clean_here", "_law_ground_here", "_law_found", "_law_k", "_law_free"] ["_law_struck", "_law_clean_here", "_law_ground_here"] (defScope sForced2) := ⟨rfl, rfl, rfl, by decide +kernel, rfl, by decide +kernel, by decide +kernel⟩
theorem ok_forced2 {f : Addr} {fd : FuncData} (F : Fun K "_law_forced" "_law_forced" sForced2 f fd) (zr : mg "range" = none) (zl : mg "len" = none) (zi : mg "int" = none) : FnOk P w K mg base CX0 1 f fd ["_law_struck", "_law_clean_here", "_law_ground_here"] (spForced2 K) := by
  refine F.ok scForced2 (fun vs H Q E h => ?_) (fun cdv A outer s H vs Q E hr h => ?_)
  · obtain ⟨v, S, C, g, st, cl, rfl, _⟩ := h
    rfl
  · obtain ⟨v, S, C, g, st, cl, rfl, rg, l3, hS, hC, kQ⟩ := h
    have nd := scForced2.nd
    refine ⟨_, pss_cons (ps_set (i := 3) nd rfl (Or.inl rfl) (pe_lst pa_nil))
      (pss_cons (ps_for PassesOwn.never rfl (pi_range1 (by rfl) zr (pa_cons (pe_callB call_len_seq (by rfl) zl PySem.boot_len (pa_cons (pv 2) pa_nil)) pa_nil)) (pg_name (i := 4) nd rfl (Or.inl rfl))
        (pss_cons (ps_set (i := 5) nd rfl (Or.inl rfl) (pe_ifExp (pt_cmpR op_eq (pe_ix ix_tup (pe_ix ix_tup (pv 2) (pv 4) (fun _ _ => rfl)) pe_int (fun _ _ => rfl)) pe_str (nomark _))
            (pe_cmpR op_notIn_seq (pe_ix ix_tup (pe_ix ix_tup (pv 2) (pv 4) (fun _ _ => rfl)) pe_int (fun _ _ => rfl)) (pv 0) (by rfl)) (pe_cmpR op_in_seq (pe_ix ix_tup (pe_ix ix_tup (pv 2) (pv 4) (fun _ _ => rfl)) pe_int (fun _ _ => rfl)) (pv 1) (by rfl))))
        (pss_one (ps_expr (by exact (pe_bm PySem.F.plainAttrs_list PySem.F.slot_list_extend PySem.F.type_list_extend mt_extend (pv 3) (pa_cons (pe_op op_rep (pe_lst (pa_cons (pv 4) pa_nil)) (pe_callTy call_int1 (by rfl) zi (by decide +kernel) (pa_cons (pe_not (pv 5)) pa_nil))) pa_nil)))))))
      (pss_one (ps_ret (pv 3)))), ?_⟩
    obtain ⟨ga, nvs, rfl, hga, rn⟩ := gd_rp rg
    have ln : nvs.length = g.length := by rw [rn.len, List.length_map]
    refine ⟨Nat.zero_le _, fun L nL => ?_⟩
    have g0 : Grow K H (upd H L (.lst [])) L (([] : List Nat).map fun i : Nat => D.int i) := Grow.start nL
    try dsimp only
    show tSeq _ _ _ [some (.ref S), some (.ref C), some (.ref ga), some (.ref L), none, none] (upd H L (.lst []))
    refine ⟨_, rfl, ga, nvs, rfl, .inr (SqT.of (g0.same _ _ hga)), _, rfl, by omega, by omega, for_it (walk_range (lo := 0) (n := ((nvs.length : Nat) : Int).toNat)) (fun j σ' H' => (∃ x4 x5, σ' = [some (.ref S), some (.ref C), some (.ref ga), some (.ref L), x4, x5]) ∧ Grow K H H' L (((List.range j).filter fun i => forcedN st cl (g.getD i (.row "" 0 0))).map fun i : Nat => D.int i))
      ⟨⟨_, _, rfl⟩, g0⟩ (fun _ _ _ _ _ => trivial) ?_ ?_⟩
    · rintro j x σ' H1' H1 hj ⟨⟨x4, x5, rfl⟩, g'⟩ ⟨rfl, rfl⟩
      have jl : j < nvs.length := hj
      obtain ⟨n, hn⟩ : ∃ n, g[j]? = some n := ⟨_, List.getElem?_eq_getElem (by omega)⟩
      obtain ⟨v, hv, rv⟩ := at_to rn hn
      have ez : (0 : Int) + ((j : Nat) : Int) = (j : Nat) := Int.zero_add _
      have hga1 := g'.same _ _ hga
      refine free_read (K := K) (n := n) (S := S) (C := C) rfl rfl rfl rfl hga1 (by rw [ez]; exact atI_nat hv) (rv.same g'.same) (hS.same g'.same) (hC.same g'.same) ?_
      try dsimp only
      · obtain ⟨ys0, hL1, _⟩ := g'.ex
        have eq : forcedN st cl n = forcedN st cl n := rfl
        revert eq
        generalize hq : (!(forcedN st cl n)) = q
        intro _
        have eq : (!q) = forcedN st cl n := by rw [← hq, Bool.not_not]
        refine ⟨_, rfl, .inl ⟨rfl, _, SqL.of hL1⟩, _, rfl, by show 1 ≤ sizeLine; decide, fun a1 na1 => ?_⟩
        have s2 : Same H1 (upd H1 a1 (.lst [.int (0 + (j : Int))])) := same_new (Same.refl H1) na1
        have h2 : upd H1 a1 (.lst [.int (0 + (j : Int))]) a1 = some (.lst [.int (0 + (j : Int))]) := upd_same
        generalize upd H1 a1 (.lst [.int (0 + (j : Int))]) = H2 at s2 h2
        refine ⟨_, rfl, q, rfl, .inr ⟨_, rfl, a1, _, _, rfl, rfl, h2, ?_, ?_, ?_, fun a2 na2 => ?_⟩⟩
        · split <;> decide
        · split <;> decide
        · show 1 * _ ≤ sizeLine
          rw [sizeLine_eq]; split <;> decide
        · rw [rep1]
          have s3 : Same H2 (upd H2 a2 (.lst (if (!q) = true then [V.int (0 + (j : Int))] else []))) := same_new (Same.refl H2) na2
          have h3 : upd H2 a2 (.lst (if (!q) = true then [V.int (0 + (j : Int))] else [])) a2 = some (.lst (if (!q) = true then [V.int (0 + (j : Int))] else [])) := upd_same
          generalize upd H2 a2 (.lst (if (!q) = true then [V.int (0 + (j : Int))] else [])) = H3 at s3 h3
          have g3 := g'.later (nat_flat _) (s2.trans s3)
          have rj : RpAll K H3 (if (!q) = true then [V.int (0 + (j : Int))] else []) ((if (!q) = true then [j] else [] : List Nat).map fun i : Nat => D.int i) := by
            cases q with
            | true => exact .nil
            | false => exact .cons (rp_z j) .nil
          obtain ⟨ys, hL, ly, g4⟩ := g3.more nL (nat_flat _) (nat_flat _) rj
          have ly' : ys.length ≤ j := by
            rw [ly, List.length_map]
            exact filter_range_le _ j
          refine ⟨L, a2, ys, _, rfl, rfl, hL, h3, ?_, ⟨_, _, rfl⟩, ?_⟩
          · have : (if (!q) = true then [V.int (0 + (j : Int))] else []).length ≤ 1 := by cases q with
            | true => exact Nat.zero_le _
            | false => exact Nat.le_refl _
            rw [sizeLine_eq]
            omega
          · rw [range_filter_succ, getD_of hn, ← eq, List.map_append]
            exact g4
    · rintro σ' H' ⟨⟨x4, x5, rfl⟩, g'⟩
      obtain ⟨ys, hL, r⟩ := g'.ex
      have e := rp_nats r
      subst e
      have ez : ((nvs.length : Nat) : Int).toNat = g.length := by rw [ln]; rfl
      rw [ez] at hL
      exact ⟨_, rfl, kQ L H' g'.same nL hL⟩
end
end Gy

namespace Gy
open PySem L2 PySem.Spec PyProof.Rows
/-! ### the law's own: clean -/
theorem notin_and {K : PySem.W.Frag} {σ : L2.St} {H : Hp} {Q : VK} {i j : Nat} {nm : Str} {l : List Str} {L : Addr} (hi : σ[i]? = some (some (.str nm))) (hj : σ[j]? = some (some (.ref L))) (hL : SqQ H L (l.map V.str)) (b : Bool) (q : Q (.bl (b && !decide (nm ∈ l))) H) :
    if b = true then tOp (rIn K true) (tVar i) (tVar j) σ H Q else Q (.bl false) H := by
  cases b with
  | true => exact iteT ⟨_, hi, _, hj, in_read (neg := true) hL (by rw [Bool.true_and] at q; exact q)⟩
  | false => exact iteF (by rw [Bool.false_and] at q; exact q)
theorem clean_bad {B : Bk} {be st l : List Str} {g : List Nd} (m : metG B be g = true) : rClean2 B be st l g = (((g.filter fun n => !(allIn l n)) ++ g.filter (onS st)).map Nd.d).isEmpty := by
  rw [isEmpty_map, isEmpty_app, filt_all, filt_none]
  unfold rClean2
  rw [m, Bool.true_and]
theorem map_if {l : List Str} {nm : Str} (q : Bool) : l.map V.str ++ (if q = true then [V.str nm] else []) = (l ++ (if q = true then [nm] else [])).map V.str := by
  cases q with
  | true => rw [if_pos rfl, if_pos rfl, List.map_append]; rfl
  | false => rw [if_neg (by decide), if_neg (by decide), List.append_nil, List.append_nil]
abbrev sCleanL : Stmt := top 43
def spCleanL (K : PySem.W.Frag) : Sp := fun vs H Q _ => ∃ (p S : Addr) (B : Bk) (st : List Str), vs = [.ref p, .ref S] ∧ Rp K H (.ref p) B.d ∧ BOk B ∧ SqQ H S (st.map V.str) ∧
  ∀ (l : Addr) (H' : Hp) (ls : List Str), Same H H' → H l = none → H' l = some (.lst (ls.map V.str)) → ls.Perm (B.clean st) → Q (.ref l) H'
section
variable {P : Program} {w : World} {K : PySem.W.Frag} {mg : Str → Option Value} {base : Heap}
theorem scCleanL : FnScope ["_law_rulebook_here", "_law_struck", "_law_kinds", "_law_live_here", "_law_found", "_law_turn", "_law_name", "_law_k", "_law_ground_here", "_law_bad", "_law_need_here"] ["_law_rulebook_here", "_law_struck"] (defScope sCleanL) := ⟨rfl, rfl, rfl, by decide +kernel, rfl, by decide +kernel, by decide +kernel⟩
theorem ok_cleanL {f : Addr} {fd : FuncData} (F : Fun K "_law_clean" "_law_clean" sCleanL f fd) (zr : mg "range" = none) (zl : mg "len" = none) (zs : mg "sorted" = none) (zi : mg "int" = none) (CK : Cal P w K mg base 1 "_law_kinds_of" ["_law_rulebook_here"] (spKindsOf K)) (CV : Cal P w K mg base 3 "_law_live" ["_law_rulebook_here"] (spLive K)) : FnOk P w K mg base CX0 4 f fd ["_law_rulebook_here", "_law_struck"] (spCleanL K) := by
  refine F.ok scCleanL (fun vs H Q E h => ?_) (fun cdv A outer s H vs Q E hr h => ?_)
  · obtain ⟨p, S, B, st, rfl, _⟩ := h
    rfl
  · obtain ⟨p, S, B, st, rfl, rp, ok, hS, kQ⟩ := h
    have nd := scCleanL.nd
    have hu := hr.units
    have hu0 := hu_of hr
    have hr1 := hr.mono (by decide : 1 ≤ 3)
    refine ⟨_, pss_cons (ps_asg (pe_tup (pa_cons (pe_cal CK hr1 rfl (pa_cons (pv 0) pa_nil)) (pa_cons (pe_cal CV hr rfl (pa_cons (pv 0) pa_nil)) (pa_cons (pe_lst pa_nil) pa_nil)))) (pg_tup rfl (pgs_cons (pg_name (i := 2) nd rfl (Or.inl rfl)) (pgs_cons (pg_name (i := 3) nd rfl (Or.inl rfl)) (pgs_cons (pg_name (i := 4) nd rfl (Or.inr rfl)) pgs_nil)))))
      (pss_cons (ps_for PassesOwn.never rfl (pi_range1 (by rfl) zr (pa_cons (pe_callB call_lenD (by rfl) zl PySem.boot_len (pa_cons (pv 2) pa_nil)) pa_nil)) (pg_name (i := 5) nd rfl (Or.inl rfl))
        (pss_one (ps_for PassesOwn.never rfl (pi_list (pe_callB (call_sortedD rfl) (by rfl) zs (by decide +kernel) (pa_cons (pv 2) pa_nil))) (pg_name (i := 6) nd rfl (Or.inl rfl))
          (pss_one (ps_for PassesOwn.never rfl (pi_list (pe_dget hu0 (pv 3) (pv 6) (fun _ _ => rfl))) (pg_name (i := 7) nd rfl (Or.inl rfl))
            (pss_cons (ps_set (i := 8) nd rfl (Or.inl rfl) (pe_ix ix_tup (pe_ix ix_tup (pe_dget hu0 (pv 2) (pv 6) (fun _ _ => rfl)) pe_int (fun _ _ => rfl)) (pv 7) (fun _ _ => rfl)))
            (pss_cons (ps_setLc (i := 9) (own := [("_law_need_here", 10)]) (g := gName 10) (tt := tAnd (tTest (tOp rEq (tOp (rIxT K) (tVar 10) (tC (.int 0))) (tC (.str "kind")))) (tTest (tOp (rIn K true) (tOp (rIxT K) (tVar 10) (tC (.int 1))) (tVar 4)))) (te := tVar 10) rfl nd rfl rfl (sw_true rfl rfl rfl (by decide +kernel)) (pi_tup (pv 8))
              (blkOk_by (own := [("_law_need_here", 10)]) (N := ["_law_rulebook_here", "_law_struck", "_law_kinds", "_law_live_here", "_law_found", "_law_turn", "_law_name", "_law_k", "_law_ground_here", "_law_bad", "_law_need_here"]) (sc := defScope sCleanL) (by decide +kernel)) (fun _ _ _ _ _ => pg_name (i := 10) nd rfl (Or.inl rfl))
              (fun _ _ _ _ _ => pts_one (PW.pt (pw_and (pt_cmpR op_eq (pe_ix ix_tup (pv 10) pe_int (fun _ _ => rfl)) pe_str (nomark _)) (pw_and1 (pt_cmpR op_notIn_seq (pe_ix ix_tup (pv 10) pe_int (fun _ _ => rfl)) (pv 4) (by rfl)))))) (fun _ _ _ _ _ => pv 10))
            (pss_cons (ps_set (i := 9) nd rfl (Or.inl rfl) (pe_op op_cat (pv 9) (pe_lc (own := [("_law_need_here", 10)]) (g := gName 10) (tt := tAnd (tTest (tOp rEq (tOp (rIxT K) (tVar 10) (tC (.int 0))) (tC (.str "row")))) (tTest (tOp (rIn K false) (tOp (rIxT K) (tVar 10) (tC (.int 1))) (tVar 1)))) (te := tVar 10) rfl nd (pi_tup (pv 8))
              (blkOk_by (own := [("_law_need_here", 10)]) (N := ["_law_rulebook_here", "_law_struck", "_law_kinds", "_law_live_here", "_law_found", "_law_turn", "_law_name", "_law_k", "_law_ground_here", "_law_bad", "_law_need_here"]) (sc := defScope sCleanL) (by decide +kernel)) (fun _ _ _ _ _ => pg_name (i := 10) nd rfl (Or.inl rfl))
              (fun _ _ _ _ _ => pts_one (PW.pt (pw_and (pt_cmpR op_eq (pe_ix ix_tup (pv 10) pe_int (fun _ _ => rfl)) pe_str (nomark _)) (pw_and1 (pt_cmpR op_in_seq (pe_ix ix_tup (pv 10) pe_int (fun _ _ => rfl)) (pv 1) (by rfl)))))) (fun _ _ _ _ _ => pv 10))))
            (pss_one (ps_expr (by exact (pe_bm PySem.F.plainAttrs_list PySem.F.slot_list_extend PySem.F.type_list_extend mt_extend (pv 4) (pa_cons (pe_op op_rep (pe_lst (pa_cons (pv 6) pa_nil)) (pe_callTy call_int1 (by rfl) zi (by decide +kernel) (pa_cons (pe_and (pe_cmpR (op_eqD hu) (pv 9) (pe_lst pa_nil) (nomark _)) (pe_one (pe_cmpR op_notIn_seq (pv 6) (pv 4) (by rfl)))) pa_nil))) pa_nil))))))))))))) 
      (pss_one (ps_ret (pv 4)))), ?_⟩
    have lb := ok.len
    have hz := sizeLine_eq
    refine ⟨_, rfl, p, B, rfl, rp, ok, fun d H1 ts s1 nd1 hd rts => ⟨_, rfl, p, B, rfl, rp.same s1, ok, fun dl Hb s2 ndl kl => ⟨Nat.zero_le _, fun L nL => ⟨by show 3 ≤ sizeLine; decide, fun t0 nt0 => ?_⟩⟩⟩⟩
    have lnm : B.names.length = B.kinds.length := by unfold Bk.names; rw [List.length_map]
    have lts : B.names.length = ts.length := by rw [rts.len, List.length_map, lnm]
    have lkd : (keyed B.names ts).length = B.kinds.length := by rw [keyed_len lts, lnm]
    have sb := s1.trans s2
    have hdb := s2 _ _ hd
    have kd : KDT K Hb d B := ⟨ts, .inl hdb, RpAll.same s2 rts⟩
    have hSb := hS.same sb
    have s3 : Same Hb (upd Hb L (.lst [])) := same_new (Same.refl Hb) nL
    have h3 : upd Hb L (.lst []) L = some (.lst (([] : List Str).map V.str)) := upd_same
    generalize upd Hb L (.lst []) = H3 at s3 h3 nt0
    have s3' : Same H3 (upd H3 t0 (.tup [.ref d, .ref dl, .ref L])) := same_new (Same.refl H3) nt0
    have h3' : upd H3 t0 (.tup [.ref d, .ref dl, .ref L]) t0 = some (.tup [.ref d, .ref dl, .ref L]) := upd_same
    generalize upd H3 t0 (.tup [.ref d, .ref dl, .ref L]) = H4 at s3' h3'
    have s4 := s3.trans s3'
    have h4 := s3' _ _ h3
    refine ⟨t0, _, rfl, SqT.of h3', rfl, _, _, rfl, _, _, rfl, _, _, rfl, rfl, ?_⟩
    try dsimp only
    show tSeq _ _ _ [some (.ref p), some (.ref S), some (.ref d), some (.ref dl), some (.ref L), none, none, none, none, none, none] H4
    refine ⟨_, rfl, d, _, rfl, s4 _ _ hdb, _, rfl, by omega, by omega, for_it (walk_range (lo := 0) (n := (((keyed B.names ts).length : Nat) : Int).toNat)) (fun i σ' H' => (∃ x5 x6 x7 x8 x9, σ' = [some (.ref p), some (.ref S), some (.ref d), some (.ref dl), some (.ref L), x5, x6, x7, x8, x9, none]) ∧ Same Hb H' ∧ ∃ l, H' L = some (.lst (l.map V.str)) ∧ SwA B (rClean2 B B.bear st) i l)
      ⟨⟨_, _, _, _, _, rfl⟩, s4, [], h4, SwA.start0⟩ (fun _ _ _ _ _ => trivial) ?_ ?_⟩
    · rintro i x σ' H5' H5 hi ⟨⟨x5, x6, x7, x8, x9, rfl⟩, s5, l, hL, sw⟩ ⟨rfl, rfl⟩
      refine ⟨_, rfl, d, _, B.names, rfl, .inl (s5 _ _ hdb), keyed_keys lts, by omega, fun ys W py sy nW => ?_⟩
      have ey : ys = B.names := sorted_one sy ok.names.asc py
      subst ey
      have WL : W ≠ L := fun z => by rw [z, hL] at nW; cases nW
      have s6 : Same H5 (upd H5 W (.lst (B.names.map V.str))) := same_new (Same.refl H5) nW
      have h6 : upd H5 W (.lst (B.names.map V.str)) W = some (.lst (B.names.map V.str)) := upd_same
      generalize upd H5 W (.lst (B.names.map V.str)) = H6 at s6 h6
      have s56 := s5.trans s6
      refine ⟨W, rfl, ⟨_, SqL.of h6⟩, for_list (xs := B.names.map V.str) (fun j σ' H' => (∃ x6 x7 x8 x9, σ' = [some (.ref p), some (.ref S), some (.ref d), some (.ref dl), some (.ref L), some (.int (0 + (i : Int))), x6, x7, x8, x9, none]) ∧ Ext L H6 H' ∧ ∃ l', H' L = some (.lst (l'.map V.str)) ∧ SwB B (rClean2 B B.bear st) i l l' (dnK B j))
        ⟨⟨_, _, _, _, rfl⟩, Ext.refl' L H6, l, s6 _ _ hL, SwB.startK sw⟩ (fun j σ' H' _ z => SqL.of (z.2.1 W _ WL h6)) ?_ ?_⟩
      · rintro j x σ' H7 hj ⟨⟨x6, x7, x8, x9, rfl⟩, e7, l', hL7, sw'⟩
        have s7 := Ext.same s56 e7 nL
        obtain ⟨k, hkj, rfl⟩ := name_at hj
        have hk := List.mem_of_getElem? hkj
        obtain ⟨a, hget, ha⟩ := (kl.same s7).get ok hk
        have aL : a ≠ L := fun z => by
          obtain ⟨a', hget', ha'⟩ := kl.get ok hk
          have : a' = a := by
            have q := s7 _ _ ha'
            obtain ⟨as, h1, h2, h3⟩ := kl
            obtain ⟨kvs, ky, hd1, hd2, hd3⟩ | ⟨kvs, ky, b, hd1, hd2, hd3, hd4⟩ := hget
            · obtain ⟨kvs', ky', hd1', hd2', hd3'⟩ | ⟨kvs', ky', b', hd1', hd2', hd3', hd4'⟩ := hget'
              · have e1 : ky = ky' := by
                  rw [hd2] at hd2'
                  cases ky <;> cases ky' <;> simp only [kV] at hd2' <;> cases hd2' <;> rfl
                subst e1
                have e2 : kvs = kvs' := by
                  rcases hd1' with y | ⟨o, y⟩
                  · have y7 := s7 _ _ y
                    rcases hd1 with y' | ⟨o', y'⟩
                    · rw [y7] at y'; cases y'; rfl
                    · rw [y7] at y'; cases y'
                  · have y7 := s7 _ _ y
                    rcases hd1 with y' | ⟨o', y'⟩
                    · rw [y7] at y'; cases y'
                    · rw [y7] at y'; cases y'; rfl
                subst e2
                rw [← hd3] at hd3'
                injection (Option.some.inj hd3')
              · cases hd2'
            · cases hd2
          subst this
          rw [z, nL] at ha'
          cases ha'
        have llv := live_len B B.bear k.gs
        have lg4 := (ok.kinds k hk).len
        refine ⟨_, rfl, _, rfl, dl, .ref a, rfl, hget, a, rfl, ⟨_, SqL.of ha⟩, for_list (xs := (liveL B B.bear k.gs).map fun i : Nat => V.int i) (fun m σ' H' => (∃ x7 x8 x9, σ' = [some (.ref p), some (.ref S), some (.ref d), some (.ref dl), some (.ref L), some (.int (0 + (i : Int))), some (.str k.name), x7, x8, x9, none]) ∧ Ext L H7 H' ∧ ∃ l'', H' L = some (.lst (l''.map V.str)) ∧ SwB B (rClean2 B B.bear st) i l l'' (dnG B j k ((liveL B B.bear k.gs).take m)))
          ⟨⟨_, _, _, rfl⟩, Ext.refl' L H7, l', hL7, SwB.startG sw'⟩ (fun m σ' H' _ z => SqL.of (z.2.1 a _ aL ha)) ?_ ?_⟩
        · rintro m x σ' H8 hm ⟨⟨x7, x8, x9, rfl⟩, e8, l'', hL8, sw''⟩
          obtain ⟨t, ht, rfl⟩ := nat_at hm
          obtain ⟨g, hg, mg⟩ := live_mem (List.mem_of_getElem? ht)
          have s8 := Ext.same s7 e8 nL
          have nx := sw''.nextG hk hg
          rw [← take_snoc ht, clean_bad mg] at nx
          have ll'' := sw''.len ok
          obtain ⟨tv, htv, rtv⟩ := (kd.same s8).get ok hk
          obtain ⟨ta, tg, tgs, rfl, hta, htg, rtg⟩ := Kd.rp_tl rtv
          obtain ⟨gv, hgv, rgv⟩ := at_to rtg hg
          have okg := (ok.kinds k hk).gs g (List.mem_of_getElem? hg)
          obtain ⟨ga, nvs, rfl, hga, rn⟩ := gd_rp rgv
          have ln : nvs.length = g.length := by rw [rn.len, List.length_map]
          have l3 := okg.len
          refine ⟨_, rfl, _, rfl, d, .ref ta, rfl, htv, ta, _, 2, .ref tg, rfl, rfl, SqT.of hta, atI_nat (j := 2) rfl, _, rfl, tg, _, t, .ref ga, rfl, rfl, SqT.of htg, atI_nat hgv, ?_⟩
          try dsimp only
          show tSeq _ _ _ [some (.ref p), some (.ref S), some (.ref d), some (.ref dl), some (.ref L), some (.int (0 + (i : Int))), some (.str k.name), some (.int t), some (.ref ga), x9, none] H8
          refine ⟨_, rfl, ga, rfl, ⟨_, SqT.of hga⟩, fun M1 nM1 => ?_⟩
          refine lc_filt (K := K) (walk_tup (xs := nvs)) g (fun n => !(allIn l'' n)) Nd.d ln.symm nd_flat nM1 (by omega) (fun H' s => SqT.of (s _ _ hga)) ?_ ?_
          · rintro q n x H9 H10 R Q' hq hn s9 ⟨rfl, hx⟩ kR kQ'
            obtain ⟨n', hn', rx⟩ := at_of rn hx
            have en : n = n' := by rw [hn] at hn'; exact Option.some.inj hn'
            subst en
            have rx9 := rx.same s9
            obtain ⟨u, rfl, hu⟩ := nd_rp rx9
            refine ⟨rfl, _, rfl, u, _, 0, .str n.word, rfl, rfl, SqT.of hu, atI_nat (j := 0) (vs0 n), rfl, _, rfl, ?_⟩
            rw [iskind]
            cases n with
            | row r t m => exact iteF (iteF (kR _ (Same.refl _) rfl))
            | knd r a t m =>
              refine iteT ⟨_, rfl, u, _, 1, .str r, rfl, rfl, SqT.of hu, atI_nat (j := 1) rfl, _, rfl, in_read (neg := true) (.inl (s9 _ _ hL8)) ⟨_, rfl, ?_⟩⟩
              show if (!decide (r ∈ l'')) = true then _ else _
              refine ite2 (fun e => ?_) fun e => ?_
              · exact ⟨_, rfl, kQ' _ _ (Same.refl _) e rx9⟩
              · exact kR _ (Same.refl _) (by simpa [allIn] using e)
          · intro H9 ys1 s9 hM1 r1
            try dsimp only
            show tSeq _ _ _ [some (.ref p), some (.ref S), some (.ref d), some (.ref dl), some (.ref L), some (.int (0 + (i : Int))), some (.str k.name), some (.int t), some (.ref ga), some (.ref M1), none] H9
            have hga9 := s9 _ _ hga
            refine ⟨_, rfl, _, rfl, ga, rfl, ⟨_, SqT.of hga9⟩, fun M2 nM2 => ?_⟩
            refine lc_filt (K := K) (walk_tup (xs := nvs)) g (onS st) Nd.d ln.symm nd_flat nM2 (by omega) (fun H' s => SqT.of (s _ _ hga9)) ?_ ?_
            · rintro q n x H10 H11 R Q' hq hn s10 ⟨rfl, hx⟩ kR kQ'
              obtain ⟨n', hn', rx⟩ := at_of rn hx
              have en : n = n' := by rw [hn] at hn'; exact Option.some.inj hn'
              subst en
              have rx9 := rx.same (s9.trans s10)
              obtain ⟨u, rfl, hu⟩ := nd_rp rx9
              refine ⟨rfl, _, rfl, u, _, 0, .str n.word, rfl, rfl, SqT.of hu, atI_nat (j := 0) (vs0 n), rfl, _, rfl, ?_⟩
              rw [isrow]
              cases n with
              | knd r a t m => exact iteF (iteF (kR _ (Same.refl _) rfl))
              | row r t m =>
                refine iteT ⟨_, rfl, u, _, 1, .str r, rfl, rfl, SqT.of hu, atI_nat (j := 1) rfl, _, rfl, in_read (neg := false) (hSb.same (s8.trans (s9.trans s10))) ⟨_, rfl, ?_⟩⟩
                show if (decide (r ∈ st)) = true then _ else _
                refine ite2 (fun e => ?_) fun e => ?_
                · exact ⟨_, rfl, kQ' _ _ (Same.refl _) e rx9⟩
                · exact kR _ (Same.refl _) (by simpa [onS] using e)
            · intro H10 ys2 s10 hM2 r2
              have s910 := s9.trans s10
              have ly1 : ys1.length ≤ g.length := by
                rw [r1.len, List.length_map]
                exact List.length_filter_le _ _
              have ly2 : ys2.length ≤ g.length := by
                rw [r2.len, List.length_map]
                exact List.length_filter_le _ _
              refine ⟨M1, M2, _, _, rfl, rfl, s10 _ _ hM1, hM2, by omega, fun u nu => ?_⟩
              have s11 : Same H10 (upd H10 u (.lst (ys1 ++ ys2))) := same_new (Same.refl H10) nu
              have h11 : upd H10 u (.lst (ys1 ++ ys2)) u = some (.lst (ys1 ++ ys2)) := upd_same
              generalize upd H10 u (.lst (ys1 ++ ys2)) = H11 at s11 h11
              have r12 := (RpAll.same (s10.trans s11) r1).append (RpAll.same s11 r2)
              rw [← List.map_append] at r12
              have s811 := s910.trans s11
              try dsimp only
              have hL11 := s811 _ _ hL8
              refine ⟨_, rfl, .inl ⟨rfl, _, SqL.of hL11⟩, _, rfl, by show 1 ≤ sizeLine; decide, fun a1 na1 => ?_⟩
              have s12 : Same H11 (upd H11 a1 (.lst [.str k.name])) := same_new (Same.refl H11) na1
              have h12 : upd H11 a1 (.lst [.str k.name]) a1 = some (.lst [.str k.name]) := upd_same
              generalize upd H11 a1 (.lst [.str k.name]) = H12 at s12 h12
              refine ⟨_, rfl, Nat.zero_le _, fun e ne => ?_⟩
              have s13 : Same H12 (upd H12 e (.lst [])) := same_new (Same.refl H12) ne
              have h13 : upd H12 e (.lst []) e = some (.lst []) := upd_same
              generalize upd H12 e (.lst []) = H13 at s13 h13
              have s1113 := s12.trans s13
              obtain ⟨d1, d2, d3⟩ := empty_dp (s1113 _ _ h11) (RpAll.same s1113 r12) (fine_nds ok fun n hn => okg.ok n (by
                rcases List.mem_append.mp hn with z | z
                · exact (List.mem_filter.mp z).1
                · exact (List.mem_filter.mp z).1)) (by decide)
              refine ⟨_, .list [], d1, .lst (SqL.of h13) .nil, d2, rfl, ?_⟩
              rw [d3]
              have hL13 := s1113 _ _ hL11
              refine ⟨_, rfl, notin_and rfl rfl (.inl hL13) _ (.inr ⟨_, rfl, a1, _, _, rfl, rfl, s13 _ _ h12, ?_, ?_, ?_, fun a2 na2 => ?_⟩)⟩
              · split <;> decide
              · split <;> decide
              · show 1 * _ ≤ sizeLine
                rw [sizeLine_eq]; split <;> decide
              · rw [rep1]
                generalize ((((g.filter fun n => !(allIn l'' n)) ++ g.filter (onS st)).map Nd.d).isEmpty && !decide (k.name ∈ l'')) = q at nx ⊢
                have s14 : Same H13 (upd H13 a2 (.lst (if q = true then [V.str k.name] else []))) := same_new (Same.refl H13) na2
                have h14 : upd H13 a2 (.lst (if q = true then [V.str k.name] else [])) a2 = some (.lst (if q = true then [V.str k.name] else [])) := upd_same
                generalize upd H13 a2 (.lst (if q = true then [V.str k.name] else [])) = H14 at s14 h14
                have s814 := (s811.trans s1113).trans s14
                refine ⟨L, a2, _, _, rfl, rfl, s14 _ _ hL13, h14, ?_, ⟨_, _, _, rfl⟩, (e8.trans' fun a o _ h => s814 a o h).trans' (Ext.put (Ext.refl' L H14)), _, ?_, nx⟩
                · have : (if q = true then [V.str k.name] else []).length ≤ 1 := by
                    cases q with
                    | true => exact Nat.le_refl _
                    | false => exact Nat.zero_le _
                  rw [List.length_map]
                  omega
                · rw [upd_same, map_if]
        · rintro σ' H8 ⟨⟨x7, x8, x9, rfl⟩, e8, l'', hL8, sw''⟩
          rw [List.length_map, List.take_length] at sw''
          exact ⟨⟨_, _, _, _, rfl⟩, e7.trans' e8, l'', hL8, sw''.finG hkj fun g r => by
            unfold rClean2 at r
            simp only [Bool.and_eq_true] at r
            exact r.1⟩
      · rintro σ' H7 ⟨⟨x6, x7, x8, x9, rfl⟩, e7, l', hL7, sw'⟩
        rw [List.length_map, lnm] at sw'
        exact ⟨⟨_, _, _, _, _, rfl⟩, Ext.same s56 e7 nL, l', hL7, sw'.finK⟩
    · rintro σ' H' ⟨⟨x5, x6, x7, x8, x9, rfl⟩, s, l, hL, sw⟩
      have ez : (((keyed B.names ts).length : Nat) : Int).toNat = B.kinds.length := by rw [lkd]; rfl
      rw [ez] at sw
      refine ⟨_, rfl, kQ L H' l (sb.trans s) (sb.free nL) hL ?_⟩
      rw [← clean_eq]
      exact sw.all ok (clean2_mono B B.bear st)
end
end Gy

namespace Gy
open PySem L2 PySem.Spec PyProof.Rows
/-! ### the law's own: able, old_needs -/
theorem KL.get2 {H H' : Hp} {d : Addr} {B : Bk} (h : KL H d B) (s : Same H H') (ok : BOk B) {k : Kd} (hk : k ∈ B.kinds) : ∃ a, DGet H' d (.str k.name) (some (.ref a)) ∧ H a = some (.lst ((liveL B B.bear k.gs).map fun i : Nat => V.int i)) := by
  obtain ⟨as, hd, la, r⟩ := h
  obtain ⟨i, hi⟩ := List.getElem?_of_mem hk
  have il := (List.getElem?_eq_some_iff.mp hi).1
  have hn : B.names[i]? = some k.name := by
    unfold Bk.names
    rw [List.getElem?_map, hi]
    rfl
  have l : B.names.length = (as.map V.ref).length := by
    unfold Bk.names
    rw [List.length_map, List.length_map, la]
  have ha : as[i]? = some (as[i]'(by omega)) := List.getElem?_eq_getElem (by omega)
  have ha' : (as.map V.ref)[i]? = some (.ref (as[i]'(by omega))) := by rw [List.getElem?_map, ha]; rfl
  have q := val_self (keyed_nodup l ok.names.nd) _ (List.mem_of_getElem? (keyed_at hn ha'))
  refine ⟨_, ?_, r i k _ hi ha⟩
  rw [← q]
  exact .inl ⟨_, Sum.inr k.name, Rd.same hd s, rfl, rfl⟩
theorem able_good {B : Bk} {be cl st l : List Str} {g : List Nd} (m : metG B be g = true) : rAble B be cl st l g = (!((g.filter (oldN l)).map Nd.d).isEmpty || decide (places (forcedN st cl) g ≠ [])) := by
  rw [isEmpty_map, filt_none, Bool.not_not]
  unfold rAble
  rw [m, Bool.true_and, Bool.or_comm]
theorem orAble_read {K : PySem.W.Frag} {σ : L2.St} {H : Hp} {Q : VK} {M S C : Addr} {v : V} {ds : List D} {ys : List V} {n m : Nat} {g : List Nd} {st cl : List Str} (h10 : σ[10]? = some (some (.ref M))) (h1 : σ[1]? = some (some (.ref S))) (h5 : σ[5]? = some (some (.ref C))) (h9 : σ[9]? = some (some v))
    (hM : H M = some (.lst ys)) (r : RpAll K H ys ds) (fl : FineL ds n m) (hm : m + 1 ≤ 40) (rg : Rp K H v (gd g)) (l3 : g.length ≤ 3) (hS : SqQ H S (st.map V.str)) (hC : SqQ H C (cl.map V.str)) (q : ∀ H', Same H H' → Q (.bl (!ds.isEmpty || decide (places (forcedN st cl) g ≠ []))) H') :
    tOrV (tOp (rNeD K) (tVar 10) (tLst tNil)) (tOp (rNeD K) (tCall (spForced2 K) [] E0 (tCons (tVar 1) (tCons (tVar 5) (tCons (tVar 9) tNil)))) (tLst tNil)) σ H Q := by
  refine ⟨_, h10, Nat.zero_le _, fun e ne => ?_⟩
  have s1 : Same H (upd H e (.lst [])) := same_new (Same.refl H) ne
  have h1' : upd H e (.lst []) e = some (.lst []) := upd_same
  generalize upd H e (.lst []) = H1 at s1 h1'
  obtain ⟨d1, d2, d3⟩ := empty_dp (s1 _ _ hM) (RpAll.same s1 r) fl hm
  refine ⟨_, .list [], d1, .lst (SqL.of h1') .nil, d2, rfl, ?_⟩
  rw [d3]
  refine ⟨_, rfl, ?_⟩
  cases hb : (!ds.isEmpty) with
  | true =>
    rw [hb, Bool.true_or] at q
    exact iteT (q H1 s1)
  | false =>
    rw [hb, Bool.false_or] at q
    refine iteF ⟨_, h1, _, h5, _, h9, v, S, C, g, st, cl, rfl, rg.same s1, l3, hS.same s1, hC.same s1, fun l H2 s2 nl hl => ⟨Nat.zero_le _, fun e2 ne2 => ?_⟩⟩
    have s3 : Same H2 (upd H2 e2 (.lst [])) := same_new (Same.refl H2) ne2
    have h3 : upd H2 e2 (.lst []) e2 = some (.lst []) := upd_same
    generalize upd H2 e2 (.lst []) = H3 at s3 h3
    obtain ⟨c1, c2, c3⟩ := nats_dp (K := K) (s3 _ _ hl)
    refine ⟨_, .list [], c1, .lst (SqL.of h3) .nil, c2, rfl, ?_⟩
    rw [c3]
    exact q H3 ((s1.trans s2).trans s3)
abbrev sAbleL : Stmt := top 45
def spAbleL (K : PySem.W.Frag) : Sp := fun vs H Q _ => ∃ (p S : Addr) (B : Bk) (st : List Str), vs = [.ref p, .ref S] ∧ Rp K H (.ref p) B.d ∧ BOk B ∧ SqQ H S (st.map V.str) ∧
  ∀ (l : Addr) (H' : Hp) (ls : List Str), Same H H' → H l = none → H' l = some (.lst (ls.map V.str)) → ls.Perm (B.able st) → Q (.ref l) H'
section
variable {P : Program} {w : World} {K : PySem.W.Frag} {mg : Str → Option Value} {base : Heap}
theorem scAbleL : FnScope ["_law_rulebook_here", "_law_struck", "_law_kinds", "_law_live_here", "_law_found", "_law_clean_here", "_law_turn", "_law_name", "_law_k", "_law_ground_here", "_law_good", "_law_need_here", "_law_is_able"] ["_law_rulebook_here", "_law_struck"] (defScope sAbleL) := ⟨rfl, rfl, rfl, by decide +kernel, rfl, by decide +kernel, by decide +kernel⟩
theorem ok_ableL {f : Addr} {fd : FuncData} (F : Fun K "_law_able" "_law_able" sAbleL f fd) (zr : mg "range" = none) (zl : mg "len" = none) (zs : mg "sorted" = none) (zi : mg "int" = none) (CK : Cal P w K mg base 1 "_law_kinds_of" ["_law_rulebook_here"] (spKindsOf K)) (CV : Cal P w K mg base 3 "_law_live" ["_law_rulebook_here"] (spLive K)) (CC : Cal P w K mg base 4 "_law_clean" ["_law_rulebook_here", "_law_struck"] (spCleanL K)) (CF : Cal P w K mg base 1 "_law_forced" ["_law_struck", "_law_clean_here", "_law_ground_here"] (spForced2 K)) : FnOk P w K mg base CX0 5 f fd ["_law_rulebook_here", "_law_struck"] (spAbleL K) := by
  refine F.ok scAbleL (fun vs H Q E h => ?_) (fun cdv A outer s H vs Q E hr h => ?_)
  · obtain ⟨p, S, B, st, rfl, _⟩ := h
    rfl
  · obtain ⟨p, S, B, st, rfl, rp, ok, hS, kQ⟩ := h
    have nd := scAbleL.nd
    have hu := hr.units
    have hu0 := hu_of hr
    have hr1 := hr.mono (by decide : 1 ≤ 4)
    have hr3 := hr.mono (by decide : 3 ≤ 4)
    refine ⟨_, pss_cons (ps_asg (pe_tup (pa_cons (pe_cal CK hr1 rfl (pa_cons (pv 0) pa_nil)) (pa_cons (pe_cal CV hr3 rfl (pa_cons (pv 0) pa_nil)) (pa_cons (pe_lst pa_nil) pa_nil)))) (pg_tup rfl (pgs_cons (pg_name (i := 2) nd rfl (Or.inl rfl)) (pgs_cons (pg_name (i := 3) nd rfl (Or.inl rfl)) (pgs_cons (pg_name (i := 4) nd rfl (Or.inr rfl)) pgs_nil)))))
      (pss_cons (ps_set (i := 5) nd rfl (Or.inl rfl) (pe_cal CC hr rfl (pa_cons (pv 0) (pa_cons (pv 1) pa_nil))))
      (pss_cons (ps_for PassesOwn.never rfl (pi_range1 (by rfl) zr (pa_cons (pe_callB call_lenD (by rfl) zl PySem.boot_len (pa_cons (pv 2) pa_nil)) pa_nil)) (pg_name (i := 6) nd rfl (Or.inl rfl))
        (pss_one (ps_for PassesOwn.never rfl (pi_list (pe_callB (call_sortedD rfl) (by rfl) zs (by decide +kernel) (pa_cons (pv 2) pa_nil))) (pg_name (i := 7) nd rfl (Or.inl rfl))
          (pss_one (ps_for PassesOwn.never rfl (pi_list (pe_dget hu0 (pv 3) (pv 7) (fun _ _ => rfl))) (pg_name (i := 8) nd rfl (Or.inl rfl))
            (pss_cons (ps_set (i := 9) nd rfl (Or.inl rfl) (pe_ix ix_tup (pe_ix ix_tup (pe_dget hu0 (pv 2) (pv 7) (fun _ _ => rfl)) pe_int (fun _ _ => rfl)) (pv 8) (fun _ _ => rfl)))
            (pss_cons (ps_setLc (i := 10) (own := [("_law_need_here", 11)]) (g := gName 11) (tt := tAnd (tTest (tOp rEq (tOp (rIxT K) (tVar 11) (tC (.int 0))) (tC (.str "kind")))) (tTest (tOp (rIn K false) (tOp (rIxT K) (tVar 11) (tC (.int 1))) (tVar 4)))) (te := tVar 11) rfl nd rfl rfl (sw_true rfl rfl rfl (by decide +kernel)) (pi_tup (pv 9))
              (blkOk_by (own := [("_law_need_here", 11)]) (N := ["_law_rulebook_here", "_law_struck", "_law_kinds", "_law_live_here", "_law_found", "_law_clean_here", "_law_turn", "_law_name", "_law_k", "_law_ground_here", "_law_good", "_law_need_here", "_law_is_able"]) (sc := defScope sAbleL) (by decide +kernel)) (fun _ _ _ _ _ => pg_name (i := 11) nd rfl (Or.inl rfl))
              (fun _ _ _ _ _ => pts_one (PW.pt (pw_and (pt_cmpR op_eq (pe_ix ix_tup (pv 11) pe_int (fun _ _ => rfl)) pe_str (nomark _)) (pw_and1 (pt_cmpR op_in_seq (pe_ix ix_tup (pv 11) pe_int (fun _ _ => rfl)) (pv 4) (by rfl)))))) (fun _ _ _ _ _ => pv 11))
            (pss_cons (ps_set (i := 12) nd rfl (Or.inl rfl) (pe_or (pe_cmpR (op_neD hu) (pv 10) (pe_lst pa_nil) (nomark _)) (pe_one (pe_cmpR (op_neD hu) (pe_cal CF hr1 rfl (pa_cons (pv 1) (pa_cons (pv 5) (pa_cons (pv 9) pa_nil)))) (pe_lst pa_nil) (nomark _)))))
            (pss_one (ps_expr (by exact (pe_bm PySem.F.plainAttrs_list PySem.F.slot_list_extend PySem.F.type_list_extend mt_extend (pv 4) (pa_cons (pe_op op_rep (pe_lst (pa_cons (pv 7) pa_nil)) (pe_callTy call_int1 (by rfl) zi (by decide +kernel) (pa_cons (pe_and (pv 12) (pe_one (pe_cmpR op_notIn_seq (pv 7) (pv 4) (by rfl)))) pa_nil))) pa_nil)))))))))))))
      (pss_one (ps_ret (pv 4))))), ?_⟩
    have lb := ok.len
    have hz := sizeLine_eq
    refine ⟨_, rfl, p, B, rfl, rp, ok, fun d H1 ts s1 nd1 hd rts => ⟨_, rfl, p, B, rfl, rp.same s1, ok, fun dl Hb s2 ndl kl => ⟨Nat.zero_le _, fun L nL => ⟨by show 3 ≤ sizeLine; decide, fun t0 nt0 => ?_⟩⟩⟩⟩
    have lnm : B.names.length = B.kinds.length := by unfold Bk.names; rw [List.length_map]
    have lts : B.names.length = ts.length := by rw [rts.len, List.length_map, lnm]
    have lkd : (keyed B.names ts).length = B.kinds.length := by rw [keyed_len lts, lnm]
    have sb := s1.trans s2
    have hdb := s2 _ _ hd
    have kd : KDT K Hb d B := ⟨ts, .inl hdb, RpAll.same s2 rts⟩
    have hSb := hS.same sb
    have s3 : Same Hb (upd Hb L (.lst [])) := same_new (Same.refl Hb) nL
    have h3 : upd Hb L (.lst []) L = some (.lst (([] : List Str).map V.str)) := upd_same
    generalize upd Hb L (.lst []) = H3 at s3 h3 nt0
    have s3' : Same H3 (upd H3 t0 (.tup [.ref d, .ref dl, .ref L])) := same_new (Same.refl H3) nt0
    have h3' : upd H3 t0 (.tup [.ref d, .ref dl, .ref L]) t0 = some (.tup [.ref d, .ref dl, .ref L]) := upd_same
    generalize upd H3 t0 (.tup [.ref d, .ref dl, .ref L]) = H4 at s3' h3'
    have s4 := s3.trans s3'
    have h4 := s3' _ _ h3
    refine ⟨t0, _, rfl, SqT.of h3', rfl, _, _, rfl, _, _, rfl, _, _, rfl, rfl, ?_⟩
    refine ⟨_, rfl, _, rfl, p, S, B, st, rfl, rp.same (sb.trans s4), ok, hSb.same s4, fun C H4c ls s4c nC hC pC => ?_⟩
    have CL : C ≠ L := fun z => by rw [z, h4] at nC; cases nC
    have efc : forcedN st ls = forcedN st (B.clean st) := forcedN_same (SameL.perm pC)
    have sbc := s4.trans s4c
    have hLc := s4c _ _ h4
    try dsimp only
    show tSeq _ _ _ [some (.ref p), some (.ref S), some (.ref d), some (.ref dl), some (.ref L), some (.ref C), none, none, none, none, none, none, none] H4c
    refine ⟨_, rfl, d, _, rfl, sbc _ _ hdb, _, rfl, by omega, by omega, for_it (walk_range (lo := 0) (n := (((keyed B.names ts).length : Nat) : Int).toNat)) (fun i σ' H' => (∃ x5 x6 x7 x8 x9 x12, σ' = [some (.ref p), some (.ref S), some (.ref d), some (.ref dl), some (.ref L), some (.ref C), x5, x6, x7, x8, x9, none, x12]) ∧ Ext L H4c H' ∧ ∃ l, H' L = some (.lst (l.map V.str)) ∧ SwA B (rAble B B.bear (B.clean st) st) i l)
      ⟨⟨_, _, _, _, _, _, rfl⟩, Ext.refl' L H4c, [], hLc, SwA.start0⟩ (fun _ _ _ _ _ => trivial) ?_ ?_⟩
    · rintro i x σ' H5' H5 hi ⟨⟨x5, x6, x7, x8, x9, x12, rfl⟩, e5, l, hL, sw⟩ ⟨rfl, rfl⟩
      have s5 := Ext.same sbc e5 nL
      refine ⟨_, rfl, d, _, B.names, rfl, .inl (s5 _ _ hdb), keyed_keys lts, by omega, fun ys W py sy nW => ?_⟩
      have ey : ys = B.names := sorted_one sy ok.names.asc py
      subst ey
      have WL : W ≠ L := fun z => by rw [z, hL] at nW; cases nW
      have s6 : Same H5 (upd H5 W (.lst (B.names.map V.str))) := same_new (Same.refl H5) nW
      have h6 : upd H5 W (.lst (B.names.map V.str)) W = some (.lst (B.names.map V.str)) := upd_same
      generalize upd H5 W (.lst (B.names.map V.str)) = H6 at s6 h6
      have s56 := s5.trans s6
      have e56 : Ext L H4c H6 := e5.trans' fun a o _ h => s6 a o h
      refine ⟨W, rfl, ⟨_, SqL.of h6⟩, for_list (xs := B.names.map V.str) (fun j σ' H' => (∃ x6 x7 x8 x9 x12, σ' = [some (.ref p), some (.ref S), some (.ref d), some (.ref dl), some (.ref L), some (.ref C), some (.int (0 + (i : Int))), x6, x7, x8, x9, none, x12]) ∧ Ext L H6 H' ∧ ∃ l', H' L = some (.lst (l'.map V.str)) ∧ SwB B (rAble B B.bear (B.clean st) st) i l l' (dnK B j))
        ⟨⟨_, _, _, _, _, rfl⟩, Ext.refl' L H6, l, s6 _ _ hL, SwB.startK sw⟩ (fun j σ' H' _ z => SqL.of (z.2.1 W _ WL h6)) ?_ ?_⟩
      · rintro j x σ' H7 hj ⟨⟨x6, x7, x8, x9, x12, rfl⟩, e7, l', hL7, sw'⟩
        have s7 := Ext.same s56 e7 nL
        obtain ⟨k, hkj, rfl⟩ := name_at hj
        have hk := List.mem_of_getElem? hkj
        obtain ⟨a, hget, hab⟩ := kl.get2 s7 ok hk
        have ha := s7 _ _ hab
        have aL : a ≠ L := fun z => by rw [z, nL] at hab; cases hab
        have llv := live_len B B.bear k.gs
        have lg4 := (ok.kinds k hk).len
        refine ⟨_, rfl, _, rfl, dl, .ref a, rfl, hget, a, rfl, ⟨_, SqL.of ha⟩, for_list (xs := (liveL B B.bear k.gs).map fun i : Nat => V.int i) (fun m σ' H' => (∃ x7 x8 x9 x12, σ' = [some (.ref p), some (.ref S), some (.ref d), some (.ref dl), some (.ref L), some (.ref C), some (.int (0 + (i : Int))), some (.str k.name), x7, x8, x9, none, x12]) ∧ Ext L H7 H' ∧ ∃ l'', H' L = some (.lst (l''.map V.str)) ∧ SwB B (rAble B B.bear (B.clean st) st) i l l'' (dnG B j k ((liveL B B.bear k.gs).take m)))
          ⟨⟨_, _, _, _, rfl⟩, Ext.refl' L H7, l', hL7, SwB.startG sw'⟩ (fun m σ' H' _ z => SqL.of (z.2.1 a _ aL ha)) ?_ ?_⟩
        · rintro m x σ' H8 hm ⟨⟨x7, x8, x9, x12, rfl⟩, e8, l'', hL8, sw''⟩
          obtain ⟨t, ht, rfl⟩ := nat_at hm
          obtain ⟨g, hg, mg⟩ := live_mem (List.mem_of_getElem? ht)
          have s8 := Ext.same s7 e8 nL
          have hC8 : H8 C = some (.lst (ls.map V.str)) := e8 C _ CL (e7 C _ CL (e56 C _ CL hC))
          have nx := sw''.nextG hk hg
          rw [← take_snoc ht, able_good mg, ← efc] at nx
          have ll'' := sw''.len ok
          obtain ⟨tv, htv, rtv⟩ := (kd.same s8).get ok hk
          obtain ⟨ta, tg, tgs, rfl, hta, htg, rtg⟩ := Kd.rp_tl rtv
          obtain ⟨gv, hgv, rgv⟩ := at_to rtg hg
          have okg := (ok.kinds k hk).gs g (List.mem_of_getElem? hg)
          have rgv0 := rgv
          obtain ⟨ga, nvs, rfl, hga, rn⟩ := gd_rp rgv
          have ln : nvs.length = g.length := by rw [rn.len, List.length_map]
          have l3 := okg.len
          refine ⟨_, rfl, _, rfl, d, .ref ta, rfl, htv, ta, _, 2, .ref tg, rfl, rfl, SqT.of hta, atI_nat (j := 2) rfl, _, rfl, tg, _, t, .ref ga, rfl, rfl, SqT.of htg, atI_nat hgv, ?_⟩
          try dsimp only
          show tSeq _ _ _ [some (.ref p), some (.ref S), some (.ref d), some (.ref dl), some (.ref L), some (.ref C), some (.int (0 + (i : Int))), some (.str k.name), some (.int t), some (.ref ga), x9, none, x12] H8
          refine ⟨_, rfl, ga, rfl, ⟨_, SqT.of hga⟩, fun M1 nM1 => ?_⟩
          refine lc_filt (K := K) (walk_tup (xs := nvs)) g (oldN l'') Nd.d ln.symm nd_flat nM1 (by omega) (fun H' s => SqT.of (s _ _ hga)) ?_ ?_
          · rintro q n x H9 H10 R Q' hq hn s9 ⟨rfl, hx⟩ kR kQ'
            obtain ⟨n', hn', rx⟩ := at_of rn hx
            have en : n = n' := by rw [hn] at hn'; exact Option.some.inj hn'
            subst en
            have rx9 := rx.same s9
            obtain ⟨u, rfl, hu⟩ := nd_rp rx9
            refine ⟨rfl, _, rfl, u, _, 0, .str n.word, rfl, rfl, SqT.of hu, atI_nat (j := 0) (vs0 n), rfl, _, rfl, ?_⟩
            rw [iskind]
            cases n with
            | row r t m => exact iteF (iteF (kR _ (Same.refl _) rfl))
            | knd r a t m =>
              refine iteT ⟨_, rfl, u, _, 1, .str r, rfl, rfl, SqT.of hu, atI_nat (j := 1) rfl, _, rfl, in_read (neg := false) (.inl (s9 _ _ hL8)) ⟨_, rfl, ?_⟩⟩
              show if (decide (r ∈ l'')) = true then _ else _
              refine ite2 (fun e => ?_) fun e => ?_
              · exact ⟨_, rfl, kQ' _ _ (Same.refl _) e rx9⟩
              · exact kR _ (Same.refl _) (by simpa [oldN] using e)
          · intro H9 ys1 s9 hM1 r1
            try dsimp only
            show tSeq _ _ _ [some (.ref p), some (.ref S), some (.ref d), some (.ref dl), some (.ref L), some (.ref C), some (.int (0 + (i : Int))), some (.str k.name), some (.int t), some (.ref ga), some (.ref M1), none, x12] H9
            refine orAble_read (K := K) (M := M1) (S := S) (C := C) (v := .ref ga) (g := g) (st := st) (cl := ls) rfl rfl rfl rfl hM1 r1 (fine_nds ok fun n hn => okg.ok n (List.mem_filter.mp hn).1) (by decide) (rgv0.same s9) l3 (hSb.same (s8.trans s9)) (.inl (s9 _ _ hC8)) fun H11 s11 => ?_
            generalize (!((g.filter (oldN l'')).map Nd.d).isEmpty || decide (places (forcedN st ls) g ≠ [])) = qa at nx ⊢
            have s811 := s9.trans s11
            try dsimp only
            have hL11 := s811 _ _ hL8
            refine ⟨_, rfl, .inl ⟨rfl, _, SqL.of hL11⟩, _, rfl, by show 1 ≤ sizeLine; decide, fun a1 na1 => ?_⟩
            have s12 : Same H11 (upd H11 a1 (.lst [.str k.name])) := same_new (Same.refl H11) na1
            have h12 : upd H11 a1 (.lst [.str k.name]) a1 = some (.lst [.str k.name]) := upd_same
            generalize upd H11 a1 (.lst [.str k.name]) = H12 at s12 h12
            have hL12 := s12 _ _ hL11
            refine ⟨_, rfl, qa, rfl, notin_and rfl rfl (.inl hL12) _ (.inr ⟨_, rfl, a1, _, _, rfl, rfl, h12, ?_, ?_, ?_, fun a2 na2 => ?_⟩)⟩
            · split <;> decide
            · split <;> decide
            · show 1 * _ ≤ sizeLine
              rw [sizeLine_eq]; split <;> decide
            · rw [rep1]
              generalize (qa && !decide (k.name ∈ l'')) = q at nx ⊢
              have s14 : Same H12 (upd H12 a2 (.lst (if q = true then [V.str k.name] else []))) := same_new (Same.refl H12) na2
              have h14 : upd H12 a2 (.lst (if q = true then [V.str k.name] else [])) a2 = some (.lst (if q = true then [V.str k.name] else [])) := upd_same
              generalize upd H12 a2 (.lst (if q = true then [V.str k.name] else [])) = H14 at s14 h14
              have s814 := (s811.trans s12).trans s14
              refine ⟨L, a2, _, _, rfl, rfl, s14 _ _ hL12, h14, ?_, ⟨_, _, _, _, rfl⟩, (e8.trans' fun a o _ h => s814 a o h).trans' (Ext.put (Ext.refl' L H14)), _, ?_, nx⟩
              · have : (if q = true then [V.str k.name] else []).length ≤ 1 := by
                  cases q with
                  | true => exact Nat.le_refl _
                  | false => exact Nat.zero_le _
                rw [List.length_map]
                omega
              · rw [upd_same, map_if]
        · rintro σ' H8 ⟨⟨x7, x8, x9, x12, rfl⟩, e8, l'', hL8, sw''⟩
          rw [List.length_map, List.take_length] at sw''
          exact ⟨⟨_, _, _, _, _, rfl⟩, e7.trans' e8, l'', hL8, sw''.finG hkj fun g r => by
            unfold rAble at r
            simp only [Bool.and_eq_true] at r
            exact r.1⟩
      · rintro σ' H7 ⟨⟨x6, x7, x8, x9, x12, rfl⟩, e7, l', hL7, sw'⟩
        rw [List.length_map, lnm] at sw'
        exact ⟨⟨_, _, _, _, _, _, rfl⟩, e56.trans' e7, l', hL7, sw'.finK⟩
    · rintro σ' H' ⟨⟨x5, x6, x7, x8, x9, x12, rfl⟩, e, l, hL, sw⟩
      have ez : (((keyed B.names ts).length : Nat) : Int).toNat = B.kinds.length := by rw [lkd]; rfl
      rw [ez] at sw
      exact ⟨_, rfl, kQ L H' l (sb.trans (Ext.same sbc e nL)) (sb.free nL) hL (sw.all ok (able_mono B _ _ st))⟩
end
end Gy

/-! sorted of a list of tuples of texts, the first of which is empty: in some order -/
namespace Lo
open PySem PySem.Calls PyProof.Rows PySem.SeqAt PySem.W
section
variable {A : Around} {s : Shared}
theorem call_tuple_lt {prog : Program} {w : World} {E : Value → Shared → Prop} {Q : Value → Shared → Prop} {l b : Addr} {items items2 : Array Value} {e r : Nat → Bool} (hl : s.heap.IsTuple l items) (hb : s.heap.IsTuple b items2)
    (he : ∀ j (h1 : j < items.size) (h2 : j < items2.size), EqAt A.in1 s items[j] items2[j] (e j)) (hr : ∀ j (h1 : j < items.size) (h2 : j < items2.size), e j = false → RcLt A.in1 s items[j] items2[j] (r j))
    (h : Q (.bool (firstLt e r (decide (items.size < items2.size)) (List.range (min items.size items2.size)))) s) : wpAny (model prog w) A (call (.builtin "tuple.__lt__") [.ref l, .ref b]) Q E s := by
  obtain ⟨⟨cls, dd, data, sl⟩, ho, hc, n, hd⟩ := id hl
  obtain ⟨⟨cls2, dd2, data2, sl2⟩, ho2, hc2, n2, hd2⟩ := id hb
  simp only at hc hd hc2 hd2
  subst hc hd hc2 hd2
  exact call_meets F.slot_tuple_lt ⟨_, ho, rfl⟩ F.entry_tuple_lt (F.args_tuple_lt_2 _ _) (tuple_ltAt l b items items2 n n2 dd dd2 sl sl2 e r) ⟨ho, ho2, he, hr, h⟩
end
section
variable {prog : Program} {w : World} {A : Around} {E : Value → Shared → Prop} {s : Shared}
theorem oneLt_tuples {xs ys : List PyData} {a b : Value} {as bs : List Addr} (ra : Reads s.heap a (.tuple xs) as) (rb : Reads s.heap b (.tuple ys) bs) (hal : alikeAll xs ys = true) (hu : A.units + min (PyData.tuple xs).depth (PyData.tuple ys).depth < cLine) :
    ∃ c : Bool, wpAny (model prog w) A (oneLt' true a b) (fun r s' => s' = s ∧ r = c) (fun _ _ => False) s := by
  cases ra with
  | @tuple l o vs n _ as₁ h1 h2 h3 h4 =>
    cases rb with
    | @tuple l' o' vs' n' _ bs₁ k1 k2 k3 k4 =>
      refine ⟨firstLt (pairEq xs ys) (fun j => dataLt (xs.getD j .none) (ys.getD j .none)) (decide (vs.size < vs'.size)) (List.range (min vs.size vs'.size)), ?_⟩
      rw [oneLt'_eq]
      simp only [if_true]
      refine wpAny_bind (wpAny_cRoomFor (room_here hu) ?_)
      refine wpAny_bind (wpAny_callSpecialIfBound?_slot (T := "tuple") ⟨_, h1, h2⟩ F.slot_tuple_lt (call_tuple_lt (e := pairEq xs ys) (r := fun j => dataLt (xs.getD j .none) (ys.getD j .none)) ⟨_, h1, h2, _, h3⟩ ⟨_, k1, k2, _, k3⟩ (fun j j1 j2 => ?_) (fun j j1 j2 hj => ?_) ?_))
      · have := eqAt_alikeAll xs ys A.in1 s vs.toList vs'.toList _ _ h4 k4 hal (room_in hu) j (by simpa using j1) (by simpa using j2)
        simpa using this
      · have := rcLt_alikeAll xs ys A.in1 s vs.toList vs'.toList _ _ h4 k4 hal (room_in hu) j (by simpa using j1) (by simpa using j2) hj
        simpa using this
      · exact wpAny_truthy_bool ⟨rfl, rfl⟩
/-- a tuple of texts lies there -/
def TupS (h : Heap) (v : Value) (ss : List Str) : Prop := ∃ as, Reads h v (.tuple (ss.map PyData.str)) as
theorem strs_alike : ∀ ss ts : List Str, alikeAll (ss.map PyData.str) (ts.map PyData.str) = true
  | [], _ => rfl
  | _ :: _, [] => rfl
  | s :: ss, t :: ts => by simp only [List.map_cons, alikeAll, alike, strs_alike ss ts, Bool.and_self]
theorem strs_depth : ∀ ss : List Str, PyData.depthAll (ss.map PyData.str) = 0
  | [] => rfl
  | s :: ss => by simp only [List.map_cons, PyData.depthAll, PyData.depth, strs_depth ss]; rfl
theorem firsts_any : ∀ (vs : List Value) {Q : List (Option Value) → Shared → Prop}, (∀ v ∈ vs, ∃ ss, TupS s.heap v ss) → (∀ fs, Q fs s) → wpAny (model prog w) A (vs.mapM firstOfTuple') Q E s
  | [], _, _, h => by rw [List.mapM_nil]; exact wpAny_pure (h _)
  | v :: vs, Q, t, h => by
    obtain ⟨ss, as, r⟩ := t v List.mem_cons_self
    rw [List.mapM_cons]
    refine wpAny_bind ?_
    rw [kas_first_eq]
    cases r with
    | @tuple a o xs n _ _ ho hc hd hr =>
      refine wpAny_bind (Looks.here (show Looks (model prog w) s.heap (typeOf (.ref a)) o.cls from (Looks.ld ho).andThen .now) ?_)
      rw [hc, if_neg (by first | decide | simp)]
      refine wpAny_bind (listItems_at ho hd (wpAny_pure ?_))
      exact wpAny_bind (firsts_any vs (Q := fun bs s' => wpAny (model prog w) A (pure (xs[0]? :: bs)) Q E s') (fun v hv => t v (List.mem_cons_of_mem _ hv)) fun fs => wpAny_pure (h _))
theorem kind_empty {v₁ : Value} {vs : List Value} {Q : SortKind → Shared → Prop} (h1 : TupS s.heap v₁ []) (t : ∀ v ∈ vs, ∃ ss, TupS s.heap v ss) (h : Q oneType' s) : wpAny (model prog w) A (keyKind' (v₁ :: vs).toArray) Q E s := by
  have hall : ∀ v ∈ v₁ :: vs, Looks (model prog w) s.heap (typeOf v) (.type "tuple") := fun v hv => by
    have : ∃ ss, TupS s.heap v ss := by
      rcases List.mem_cons.mp hv with e | e
      · rw [e]; exact ⟨[], h1⟩
      · exact t v e
    obtain ⟨ss, as, r⟩ := this
    cases r with
    | @tuple a o xs n _ _ ho hc hd hr =>
      rw [← hc]
      exact (Looks.ld ho).andThen .now
  rw [keyKind'_eq, List.mapM_toArray, map_eq_pure_bind]
  obtain ⟨as, r⟩ := h1
  refine wpAny_bind (wpAny_bind ?_)
  rw [List.mapM_cons]
  refine wpAny_bind ?_
  rw [kas_first_eq]
  cases r with
  | @tuple a o xs n _ _ ho hc hd hr =>
    refine wpAny_bind (Looks.here (show Looks (model prog w) s.heap (typeOf (.ref a)) o.cls from (Looks.ld ho).andThen .now) ?_)
    rw [hc, if_neg (by first | decide | simp)]
    refine wpAny_bind (listItems_at ho hd (wpAny_pure ?_))
    have hx : xs[0]? = none := by
      have z := SeqAt.ReadsAll.length _ _ _ hr
      simp at z
      rw [z]
      rfl
    rw [hx]
    refine wpAny_bind (firsts_any vs t fun fs => ?_)
    refine wpAny_pure (wpAny_pure ?_)
    rw [if_neg (by simp), if_neg (by simp)]
    rw [oneTypeOnly'_eq, List.mapM_toArray, map_eq_pure_bind]
    refine wpAny_bind (wpAny_bind (wpAny_bind (kas_mapM (r := Value.type "tuple") _ (fun v hv Q' hq => (hall v hv).here hq) (wpAny_pure ?_))))
    have hall2 : ((List.map (fun _ => Value.type "tuple") (Value.ref a :: vs)).toArray.all fun x => x == Value.type "tuple") = true := by
      simp only [List.all_toArray, List.all_map, List.all_eq_true]
      intro _ _
      exact beq_self_eq_true _
    have h0 : (List.map (fun _ => Value.type "tuple") (Value.ref a :: vs)).toArray[0]? = some (Value.type "tuple") := by simp
    rw [h0]
    simp only [hall2, if_true]
    exact wpAny_pure (wpAny_pure h)
theorem sorted_empty {l : Addr} {v₁ : Value} {vs : List Value} {Q : Value → Shared → Prop} (hl : s.heap.IsList l (v₁ :: vs).toArray) (hz : (v₁ :: vs).length ≤ sizeLine) (h1 : TupS s.heap v₁ []) (t : ∀ v ∈ vs, ∃ ss, TupS s.heap v ss) (hu : A.units + 8 < cLine)
    (h : ∀ (h' : Heap) (d : Addr) (out : List Value), out.Perm (v₁ :: vs) → (∀ b o, s.heap.get? b = some o → h'.get? b = some o) → s.heap.objs.size ≤ d → (∃ n, h'.get? d = some (seqObj "list" out.toArray n)) → Q (.ref d) { s with heap := h' }) :
    wpAny (model prog w) A (call (.builtin "sorted") [.ref l]) Q E s := by
  refine Srt.sorted_any hl hz (fun h2 h₁ a ha k h' keep => ?_) fun out ho => ?_
  · have kp : ∀ b o, s.heap.get? b = some o → h'.get? b = some o := fun b o e => keep b o (k b o e).1 (k b o e).2
    have up : ∀ {v ss}, TupS s.heap v ss → TupS h' v ss := fun ⟨as, r⟩ => ⟨as, Reads.keeps kp r⟩
    have all : ∀ v ∈ v₁ :: vs, ∃ ss, TupS h' v ss := fun v hv => by
      rcases List.mem_cons.mp hv with e | e
      · rw [e]; exact ⟨[], up h1⟩
      · obtain ⟨ss, x⟩ := t v e
        exact ⟨ss, up x⟩
    refine ⟨oneType', fun Q E hq => kind_empty (s := { s with heap := h' }) (up h1) (fun v hv => all v (List.mem_cons_of_mem _ hv)) hq, fun p q hp hq => ?_⟩
    obtain ⟨ss, as, r⟩ := all _ hp
    obtain ⟨ts, bs, r'⟩ := all _ hq
    rw [keyLt'_oneType]
    refine oneLt_tuples (s := { s with heap := h' }) r r' (strs_alike ss ts) ?_
    simp only [PyData.depth, strs_depth, Around.in1_units]
    omega
  · exact h _ _ out ho (fun b o e => sortedAll_old e) (Nat.le_succ _) (sortedAll_at s.heap _ out.toArray)
end
end Lo
namespace Gy
open PySem L2 PySem.Spec PyProof.Rows
section
variable {X : Cx}
def lotD (ss : List Str) : D := .tup (ss.map D.str)
def rSortedE (K : PySem.W.Frag) : List V → Hp → VK → Prop := fun vs H Q => ∃ (a : Addr) (xs : List V) (lss : List (List Str)), vs = [V.ref a] ∧ SqL K H a xs ∧ RpAll K H xs (([] :: lss).map lotD) ∧ ∀ ys p, ys.Perm xs → H p = none → Q (.ref p) (upd H p (.lst ys))
theorem py_strs : ∀ ss : List Str, D.pyAll (ss.map D.str) = ss.map PyData.str
  | [] => rfl
  | s :: ss => by simp only [List.map_cons, D.pyAll, D.py, py_strs ss]
theorem plain_strs : ∀ ss : List Str, D.plainAll (ss.map D.str) = true
  | [] => rfl
  | s :: ss => by simp only [List.map_cons, D.plainAll, D.plain, plain_strs ss, Bool.and_self]
theorem lot_reads {pins : List (Addr × Obj)} {σ : L2.St} {H : Hp} {s : Shared} (I : Inv X pins σ H s) {x : V} {v : Value} {ss : List Str} (r : Rp X.K H x (lotD ss)) (rx : RelV x v) : Lo.TupS s.heap v ss := by
  have dp := r.dp (show (lotD ss).plain = true by unfold lotD; simp only [D.plain, plain_strs])
  obtain ⟨as, q⟩ := Dp.reads I _ _ _ dp rx
  refine ⟨as, ?_⟩
  have e : (lotD ss).py = .tuple (ss.map PyData.str) := by unfold lotD; simp only [D.py, py_strs]
  rw [e] at q
  exact q
theorem lots_each {pins : List (Addr × Obj)} {σ : L2.St} {H : Hp} {s : Shared} (I : Inv X pins σ H s) : ∀ {xs : List V} {us : List Value} {lss : List (List Str)}, RpAll X.K H xs (lss.map lotD) → Vals xs us → ∀ v ∈ us, ∃ ss, Lo.TupS s.heap v ss
  | _, _, [], .nil, rv => by
    cases rv
    intro v hv
    cases hv
  | _, _, ss :: lss, .cons r rs, rv => by
    cases rv with
    | cons r1 rvs =>
      intro v hv
      rcases List.mem_cons.mp hv with e | e
      · rw [e]; exact ⟨ss, lot_reads I r r1⟩
      · exact lots_each I rs rvs v e
theorem cr_sortedE (hu : X.A.units + 64 < cLine) : CallR X (.builtin "sorted") (rSortedE X.K) := by
  intro pins s σ H vs us Q I r h
  obtain ⟨a, xs, lss, rfl, hs, rx, q⟩ := h
  obtain ⟨its, rv, hl, hz⟩ := I.list hs
  obtain ⟨u, rfl, ru⟩ := vals1 r
  obtain rfl : u = Value.ref a := ru
  have hrefs : ∀ x ∈ xs, ∃ t, x = V.ref t := fun x hx => by
    obtain ⟨i, hi⟩ := List.getElem?_of_mem hx
    obtain ⟨ss, _, rr⟩ := at_of rx hi
    unfold lotD at rr
    cases rr with
    | tup e _ => exact ⟨_, rfl⟩
  obtain ⟨e1, e2⟩ := refs_back rv hrefs
  have each := lots_each I rx rv
  cases rx with
  | cons r1 rs =>
    cases rv with
    | @cons x0 v0 xs0 us0 rv1 rvs =>
      have first := lot_reads I r1 rv1
      refine Lo.sorted_empty hl.isList (by have := rvs.length; simp only [List.length_cons] at hz ⊢; omega) first (fun v hv => each v (List.mem_cons_of_mem _ hv)) (by omega) fun h' d out hp k hd hn => ?_
      have h3 : ∀ u ∈ out, ∃ a, u = Value.ref a := fun u hu => e2 u (hp.mem_iff.mp hu)
      obtain ⟨n, hn⟩ := hn
      refine ⟨.ref d, upd H d (.lst (out.map backV)), I.laid (t' := s.toks) k hd ⟨?_, out, n, vals_back h3, hn⟩, rfl, q _ d ?_ (I.hok.fresh hd)⟩
      · rw [List.length_map, hp.length_eq]
        simpa [rvs.length] using hz
      · rw [e1]; exact hp.map backV
end
end Gy

namespace Gy
open PySem L2 PySem.Spec PyProof.Rows
/-! ### the law's own: lots_of, old_needs -/
theorem lot_flat (ss : List Str) : (lotD ss).flat = true := by
  unfold lotD
  simp only [D.flat]
  induction ss with
  | nil => rfl
  | cons x xs ih => simp only [List.map_cons, D.flatAll, D.flat, ih, Bool.and_self]
theorem lot_rp {K : PySem.W.Frag} {H : Hp} {v : V} {ss : List Str} (r : Rp K H v (lotD ss)) : ∃ t, v = .ref t ∧ H t = some (.tup (ss.map V.str)) := by
  unfold lotD at r
  cases r with
  | tup e r => exact ⟨_, rfl, by rw [e, rp_strs r]⟩
theorem tup_dp {K : PySem.W.Frag} {H : Hp} {a : Addr} {is : List Nat} (h : H a = some (.tup (is.map fun i : Nat => V.int i))) (l : is.length ≤ 100) (hm : ∀ i ∈ is, i < 1000) : Dp K H (.ref a) (.tuple (D.pyAll (is.map fun i : Nat => D.int i))) ∧ SeqAt.shaped (.tuple (D.pyAll (is.map fun i : Nat => D.int i))) = true ∧ (!PyData.eqv (.tuple (D.pyAll (is.map fun i : Nat => D.int i))) (.tuple [])) = decide (is ≠ []) := by
  have f := (FineL.of (ds := is.map fun i : Nat => D.int i) (n := 1) (m := 0) fun d hd => by
    obtain ⟨x, hx, rfl⟩ := List.mem_map.mp hd
    have := hm x hx
    exact fine_int (by omega) (by omega)).tup
  obtain ⟨f1, f2, _⟩ := f.shaped (by decide)
  refine ⟨(Rp.tup h (rp_of_nats is)).dp f1, f2, ?_⟩
  cases is with
  | nil => rfl
  | cons i is =>
    simp only [List.map_cons, D.pyAll, PyData.eqv, PyData.eqvAll]
    rfl
theorem places_lt (f : Nd → Bool) (g : List Nd) : ∀ i ∈ places f g, i < g.length := fun i hi => List.mem_range.mp (List.mem_filter.mp hi).1
theorem places_len (f : Nd → Bool) (g : List Nd) : (places f g).length ≤ g.length := filter_range_le _ _
abbrev sLots : Stmt := top 46
def LotOk (rows : List Str) (n : Nat) (ss : List Str) : Prop := (∀ x ∈ ss, x ∈ rows) ∧ ss.length ≤ n
def spLots (K : PySem.W.Frag) : Sp := fun vs H Q _ => ∃ (R : Addr) (rows : List Str), vs = [.ref R] ∧ H R = some (.tup (rows.map V.str)) ∧ rows.length ≤ 15 ∧
  ∀ (l : Addr) (H' : Hp) (ys : List V) (lss : List (List Str)), Same H H' → H l = none → H' l = some (.lst ys) → RpAll K H' ys (lss.map lotD) → (∀ ss ∈ lss, LotOk rows rows.length ss) → lss.length = 2 ^ rows.length → Q (.ref l) H'
def spOldN2 (K : PySem.W.Frag) : Sp := fun vs H Q _ => ∃ (v : V) (S C A : Addr) (g : List Nd) (st cl ab : List Str), vs = [.ref S, .ref C, .ref A, v] ∧ Rp K H v (gd g) ∧ g.length ≤ 3 ∧ SqQ H S (st.map V.str) ∧ SqQ H C (cl.map V.str) ∧ SqQ H A (ab.map V.str) ∧
  ∀ r H', Same H H' → Rp K H' r (oldD st cl ab g) → Q r H'
section
variable {P : Program} {w : World} {K : PySem.W.Frag} {mg : Str → Option Value} {base : Heap}
theorem scLots : FnScope ["_law_things", "_law_found", "_law_thing", "_law_lot"] ["_law_things"] (defScope sLots) := ⟨rfl, rfl, rfl, by decide +kernel, rfl, by decide +kernel, by decide +kernel⟩
theorem ok_lots {f : Addr} {fd : FuncData} (F : Fun K "_law_lots_of" "_law_lots_of" sLots f fd) (zs : mg "sorted" = none) : FnOk P w K mg base CX0 1 f fd ["_law_things"] (spLots K) := by
  refine F.ok scLots (fun vs H Q E h => ?_) (fun cdv A outer s H vs Q E hr h => ?_)
  · obtain ⟨R, rows, rfl, _⟩ := h
    rfl
  · obtain ⟨R, rows, rfl, hR, l3, kQ⟩ := h
    have nd := scLots.nd
    have hu := hr.units
    have hz := sizeLine_eq
    refine ⟨_, pss_cons (ps_set (i := 1) nd rfl (Or.inl rfl) (pe_lst (pa_cons (pe_tup pa_nil) pa_nil)))
      (pss_cons (ps_for PassesOwn.never rfl (pi_tup (pv 0)) (pg_name (i := 2) nd rfl (Or.inr rfl))
        (pss_one (ps_set (i := 1) nd rfl (Or.inl rfl) (pe_op op_cat (pv 1) (pe_lc (own := [("_law_lot", 3)]) (g := gName 3) (tt := tYes) (te := tOp (rCatA K) (tVar 3) (tTup (tCons (tVar 2) tNil))) rfl nd (pi_list (pv 1))
          (blkOk_by (own := [("_law_lot", 3)]) (N := ["_law_things", "_law_found", "_law_thing", "_law_lot"]) (sc := defScope sLots) (by decide +kernel)) (fun _ _ _ _ _ => pg_name (i := 3) nd rfl (Or.inl rfl)) (fun _ _ _ _ _ => pts_nil) (fun _ _ _ _ _ => pe_op op_catA (pv 3) (pe_tup (pa_cons (pv 2) pa_nil))))))))
      (pss_one (ps_ret (pe_callB (cr_sortedE hu) (by rfl) zs (by decide +kernel) (pa_cons (pv 1) pa_nil))))), ?_⟩
    refine ⟨Nat.zero_le _, fun t0 nt0 => ⟨by show 1 ≤ sizeLine; decide, fun L nL => ?_⟩⟩
    have s1 : Same H (upd H t0 (.tup [])) := same_new (Same.refl H) nt0
    have h1 : upd H t0 (.tup []) t0 = some (.tup []) := upd_same
    generalize upd H t0 (.tup []) = H1 at s1 h1 nL
    have s2 : Same H1 (upd H1 L (.lst [.ref t0])) := same_new (Same.refl H1) nL
    have h2 : upd H1 L (.lst [.ref t0]) L = some (.lst [.ref t0]) := upd_same
    generalize upd H1 L (.lst [.ref t0]) = H2 at s2 h2
    have s12 := s1.trans s2
    try dsimp only
    show tSeq _ _ _ [some (.ref R), some (.ref L), none, none] H2
    refine ⟨_, rfl, R, rfl, ⟨_, SqT.of (s12 _ _ hR)⟩, for_tup (xs := rows.map V.str) (fun i σ' H' => (∃ (Lf : Addr) (x2 : Option V), σ' = [some (.ref R), some (.ref Lf), x2, none] ∧ Same H H' ∧ ∃ xs lss, H' Lf = some (.lst xs) ∧ RpAll K H' xs (([] :: lss).map lotD) ∧ (∀ ss ∈ ([] :: lss), LotOk rows i ss) ∧ ([] :: lss : List (List Str)).length = 2 ^ i))
      ⟨L, none, rfl, s12, _, [], h2, .cons (.tup (s2 _ _ h1) .nil) .nil, fun ss m => by rw [List.mem_singleton.mp m]; exact ⟨fun x m => absurd m List.not_mem_nil, Nat.le_refl _⟩, rfl⟩ (fun i σ' H' _ z => by
        obtain ⟨_, _, _, s, _⟩ := z
        exact SqT.of (s _ _ hR)) ?_ ?_⟩
    · rintro i x σ' H3 hx ⟨Lf, x2, rfl, s3, xs, lss, hLf, rx, okx, lx⟩
      obtain ⟨th, hth, rfl⟩ : ∃ th, rows[i]? = some th ∧ x = V.str th := by
        rw [List.getElem?_map] at hx
        cases z : rows[i]? with
        | none => rw [z] at hx; cases hx
        | some th => rw [z] at hx; exact ⟨th, rfl, (Option.some.inj hx).symm⟩
      have il := (List.getElem?_eq_some_iff.mp hth).1
      have hin : th ∈ rows := List.mem_of_getElem? hth
      have lxs : xs.length = 2 ^ i := by rw [rx.len, List.length_map, lx]
      have l4 : 2 ^ i ≤ 16384 := by
        have : i ≤ 14 := by omega
        exact Nat.pow_le_pow_right (by decide : 0 < 2) this
      refine ⟨_, rfl, _, rfl, Lf, rfl, ⟨_, SqL.of hLf⟩, fun Dx nD => ?_⟩
      refine lc_map (K := K) (walk_list (xs := xs)) ((([] :: lss).map fun ss => ss ++ [th]).map lotD) (by rw [List.length_map, List.length_map, lx, lxs]) (flat_map lot_flat _) nD (by omega) (fun H' s => SqL.of (s _ _ hLf)) ?_ ?_ gName_mono
      · rintro m d x Ha Hb Q' hm hd sa ⟨rfl, hx⟩ kk
        obtain ⟨ss, hss, rss⟩ := at_of rx hx
        have ed : d = lotD (ss ++ [th]) := by
          rw [List.map_map, List.getElem?_map, hss] at hd
          exact (Option.some.inj hd).symm
        subst ed
        obtain ⟨t, rfl, ht⟩ := lot_rp (rss.same sa)
        have lss' := (okx ss (List.mem_of_getElem? hss)).2
        refine ⟨rfl, _, rfl, _, rfl, by show 1 ≤ sizeLine; decide, fun q nq => ?_⟩
        have s5 : Same Hb (upd Hb q (.tup [.str th])) := same_new (Same.refl Hb) nq
        have h5 : upd Hb q (.tup [.str th]) q = some (.tup [.str th]) := upd_same
        generalize upd Hb q (.tup [.str th]) = H5 at s5 h5
        refine ⟨t, q, _, _, rfl, rfl, SqT.of (s5 _ _ ht), SqT.of h5, by rw [List.length_map]; show _ + 1 ≤ _; omega, fun e => ?_, fun _ e => (by cases e), fun ne _ p np => ?_⟩
        · have es : ss = [] := by
            cases ss with
            | nil => rfl
            | cons _ _ => cases e
          subst es
          exact kk _ _ s5 (.tup h5 (.cons (.str _) .nil))
        · have s6 : Same H5 (upd H5 p (.tup (ss.map V.str ++ [.str th]))) := same_new (Same.refl H5) np
          refine kk _ _ (s5.trans s6) (.tup upd_same ?_)
          have e : ss.map V.str ++ [.str th] = (ss ++ [th]).map V.str := by rw [List.map_append]; rfl
          rw [e]
          exact rp_of_strs _
      · intro H4 zs s4 hD r
        have lz : zs.length = 2 ^ i := by rw [r.len, List.length_map, List.length_map, lx]
        refine ⟨Lf, Dx, xs, zs, rfl, rfl, s4 _ _ hLf, hD, by omega, fun u nu => ?_⟩
        have s5 : Same H4 (upd H4 u (.lst (xs ++ zs))) := same_new (Same.refl H4) nu
        refine ⟨u, _, rfl, (s3.trans s4).trans s5, xs ++ zs, lss ++ ([] :: lss).map (fun ss => ss ++ [th]), upd_same, ?_, fun ss m => ?_, ?_⟩
        · have q := (RpAll.same (s4.trans s5) rx).append (RpAll.same s5 r)
          rw [← List.map_append] at q
          exact q
        · rcases List.mem_append.mp (show ss ∈ ([] :: lss) ++ ([] :: lss).map (fun ss => ss ++ [th]) from m) with z | z
          · exact ⟨(okx ss z).1, Nat.le_succ_of_le (okx ss z).2⟩
          · obtain ⟨ss', m', rfl⟩ := List.mem_map.mp z
            refine ⟨fun x hx => ?_, by rw [List.length_append, List.length_singleton]; have := (okx ss' m').2; omega⟩
            rcases List.mem_append.mp hx with y | y
            · exact (okx ss' m').1 x y
            · rw [List.mem_singleton.mp y]; exact hin
        · show (([] :: lss) ++ ([] :: lss).map (fun ss => ss ++ [th])).length = _
          rw [List.length_append, List.length_map, lx, Nat.pow_succ]
          omega
    · rintro σ' H3 ⟨Lf, x2, rfl, s3, xs, lss, hLf, rx, okx, lx⟩
      rw [List.length_map] at okx lx
      refine ⟨_, rfl, Lf, xs, lss, rfl, SqL.of hLf, rx, fun ys p py np => ?_⟩
      have s4 : Same H3 (upd H3 p (.lst ys)) := same_new (Same.refl H3) np
      obtain ⟨lss', r', ok', ll'⟩ := re_map (f := lotD) (ok := LotOk rows rows.length) (K := K) (H := upd H3 p (.lst ys)) (ys := ys) fun y hy => by
        obtain ⟨j, hj⟩ := List.getElem?_of_mem (py.mem_iff.mp hy)
        obtain ⟨ss, hss, rss⟩ := at_of rx hj
        exact ⟨ss, rss.same s4, okx ss (List.mem_of_getElem? hss)⟩
      refine kQ p _ ys lss' (s3.trans s4) (s3.free np) upd_same r' ok' ?_
      rw [ll', py.length_eq, rx.len, List.length_map, lx]
abbrev ttOld2 (K : PySem.W.Frag) : TT := tAnd (tTest (tOp rEq (tOp (rIxT K) (tOp (rIxT K) (tVar 3) (tVar 6)) (tC (.int 0))) (tC (.str "kind")))) (tTest (tOp (rIn K false) (tOp (rIxT K) (tOp (rIxT K) (tVar 3) (tVar 6)) (tC (.int 1))) (tVar 2)))
theorem old2_read {K : PySem.W.Frag} {σ : L2.St} {H : Hp} {Q : Bool → Hp → Prop} {ga L : Addr} {nvs : List V} {j : Int} {v : V} {n : Nd} {ss : List Str} (h3 : σ[3]? = some (some (.ref ga))) (h6 : σ[6]? = some (some (.int j))) (h2 : σ[2]? = some (some (.ref L)))
    (hga : H ga = some (.tup nvs)) (hv : atI nvs j = some v) (rn : Rp K H v n.d) (hL : SqQ H L (ss.map V.str)) (q : Q (oldN ss n) H) : ttOld2 K σ H Q := by
  obtain ⟨u, rfl, hu⟩ := nd_rp rn
  refine ⟨_, h3, _, h6, ga, _, _, _, rfl, rfl, SqT.of hga, hv, u, _, 0, .str n.word, rfl, rfl, SqT.of hu, atI_nat (j := 0) (vs0 n), rfl, _, rfl, ?_⟩
  rw [iskind]
  cases n with
  | row r t m => exact iteF q
  | knd r a t m => exact iteT ⟨_, h3, _, h6, ga, _, _, _, rfl, rfl, SqT.of hga, hv, u, _, 1, .str r, rfl, rfl, SqT.of hu, atI_nat (j := 1) rfl, _, h2, in_read hL ⟨_, rfl, q⟩⟩
end
end Gy

namespace Gy
open PySem L2 PySem.Spec PyProof.Rows
/-! ### what is compared is fine -/
theorem fine_nats {is : List Nat} (hm : ∀ i ∈ is, i < 1000) : FineL (is.map fun i : Nat => D.int i) (1 * is.length) 0 := by
  have q := FineL.of (ds := is.map fun i : Nat => D.int i) (n := 1) (m := 0) fun d hd => by
    obtain ⟨x, hx, rfl⟩ := List.mem_map.mp hd
    have := hm x hx
    exact fine_int (by omega) (by omega)
  rw [List.length_map] at q
  exact q
theorem fine_strs {ss : List Str} (hm : ∀ x ∈ ss, x ∈ menu) : FineL (ss.map D.str) (1 * ss.length) 0 := by
  have q := FineL.of (ds := ss.map D.str) (n := 1) (m := 0) fun d hd => by
    obtain ⟨x, hx, rfl⟩ := List.mem_map.mp hd
    exact fine_name (hm x hx)
  rw [List.length_map] at q
  exact q
theorem ls_menu {B : Bk} (ok : BOk B) (right : List Str → List Nd → Bool) : ∀ x ∈ lsL B right, x ∈ menu := fun x hx => ok.names.mem x (mem_lsL.mp hx).isin
theorem sets_fine {B : Bk} (ok : BOk B) (st : List Str) : (D.lst [.tup (B.bear.map D.str), .tup ((B.clean st).map D.str), .tup ((B.able st).map D.str)]).Fine 100 2 := by
  have l1 := lsL_len (right := metG B) ok
  have l2 := lsL_len (right := rClean B st) ok
  have l3 := lsL_len (right := rAble B B.bear (B.clean st) st) ok
  have q1 := (fine_strs (ls_menu ok (metG B))).tup
  have q2 := (fine_strs (ls_menu ok (rClean B st))).tup
  have q3 := (fine_strs (ls_menu ok (rAble B B.bear (B.clean st) st))).tup
  exact (FineL.lst (.cons q1 (.cons q2 (.cons q3 .nil)))).mono (by omega) (by decide)
theorem live_lt {B : Bk} {be : List Str} {gs : List (List Nd)} (h : gs.length ≤ 4) : ∀ i ∈ liveL B be gs, i < 1000 := fun i hi => by
  have := List.mem_range.mp (List.mem_filter.mp hi).1
  omega
theorem live_fine {B : Bk} {be : List Str} {gs : List (List Nd)} (h : gs.length ≤ 4) : (D.lst ((liveL B be gs).map fun i : Nat => D.int i)).Fine 10 1 := by
  have := live_len B be gs
  exact (fine_nats (live_lt h)).lst.mono (by omega) (by omega)
theorem pl_lt {f : Nd → Bool} {g : List Nd} (h : g.length ≤ 3) : ∀ i ∈ places f g, i < 1000 := fun i hi => by
  have := places_lt f g i hi
  omega
theorem pl_fine {f : Nd → Bool} {g : List Nd} (h : g.length ≤ 3) : (D.lst ((places f g).map fun i : Nat => D.int i)).Fine 10 1 := by
  have := places_len f g
  exact (fine_nats (pl_lt h)).lst.mono (by omega) (by omega)
theorem plT_fine {f : Nd → Bool} {g : List Nd} (h : g.length ≤ 3) : (natsD (places f g)).Fine 10 1 := by
  have := places_len f g
  exact (fine_nats (pl_lt h)).tup.mono (by omega) (by omega)
theorem old_fine {st cl ab : List Str} {g : List Nd} (h : g.length ≤ 3) : (oldD st cl ab g).Fine 20 2 := by
  have w1 : (D.str "all").Fine 1 0 := fine_str (by decide +kernel)
  have w2 : (D.str "one").Fine 1 0 := fine_str (by decide +kernel)
  have w3 : (D.str "none").Fine 1 0 := fine_str (by decide +kernel)
  unfold oldD
  split
  · exact (FineL.tup (.cons w1 (.cons (plT_fine h) .nil))).mono (by decide) (by decide)
  · split
    · exact (FineL.tup (.cons w2 (.cons (plT_fine h) .nil))).mono (by decide) (by decide)
    · exact (FineL.tup (.cons w3 (.cons (FineL.tup .nil) .nil))).mono (by decide) (by decide)
theorem both_fine {st cl ab : List Str} {g : List Nd} (h : g.length ≤ 3) : (D.lst [.lst ((places (forcedN st cl) g).map fun i : Nat => D.int i), oldD st cl ab g]).Fine 40 3 :=
  (FineL.lst (.cons (pl_fine h) (.cons (old_fine h) .nil))).mono (by decide) (by decide)
theorem asked_fine {B : Bk} (ok : BOk B) {st : List Str} (hm : ∀ x ∈ st, x ∈ menu) (l : st.length ≤ 15) : (D.lst [B.d, .tup (st.map D.str)]).Fine 1500 7 :=
  (FineL.lst (.cons ok.fine (.cons (fine_strs hm).tup .nil))).mono (by omega) (by decide)
theorem keyed_of {ns : List Str} {ts : List V} {i : Nat} {ky : Key} {v : V} (h : (keyed ns ts)[i]? = some (ky, v)) : ∃ n, ns[i]? = some n ∧ ky = Sum.inr n := by
  unfold keyed at h
  rw [List.getElem?_zipWith] at h
  cases z : ns[i]? with
  | none => rw [z] at h; cases h
  | some n =>
    cases z' : ts[i]? with
    | none => rw [z, z'] at h; cases h
    | some t =>
      rw [z, z'] at h
      simp only [Option.some.injEq, Prod.mk.injEq] at h
      exact ⟨n, rfl, h.1.symm⟩
end Gy

/-! sorted of tuples of texts: THE sorted list, an empty one may stand at the first place -/
namespace Lo
open PySem PySem.Calls PyProof.Rows PySem.SeqAt PySem.W
section
variable {prog : Program} {w : World} {A : Around} {E : Value → Shared → Prop} {s : Shared}
theorem oneLt_tuplesQ {xs ys : List PyData} {a b : Value} {as bs : List Addr} {Q : Bool → Shared → Prop} (ra : Reads s.heap a (.tuple xs) as) (rb : Reads s.heap b (.tuple ys) bs) (hal : alikeAll xs ys = true) (hu : A.units + min (PyData.tuple xs).depth (PyData.tuple ys).depth < cLine)
    (hq : Q (dataLt (.tuple xs) (.tuple ys)) s) : wpAny (model prog w) A (oneLt' true a b) Q E s := by
  cases ra with
  | @tuple l o vs n _ as₁ h1 h2 h3 h4 =>
    cases rb with
    | @tuple l' o' vs' n' _ bs₁ k1 k2 k3 k4 =>
      have n1 : vs.size = xs.length := by simpa using ReadsAll.length _ _ _ h4
      have n2 : vs'.size = ys.length := by simpa using ReadsAll.length _ _ _ k4
      rw [dataLt_tuple, ← firstLt_toks xs ys hal, ← n1, ← n2] at hq
      rw [oneLt'_eq]
      simp only [if_true]
      refine wpAny_bind (wpAny_cRoomFor (room_here hu) ?_)
      refine wpAny_bind (wpAny_callSpecialIfBound?_slot (T := "tuple") ⟨_, h1, h2⟩ F.slot_tuple_lt (call_tuple_lt (e := pairEq xs ys) (r := fun j => dataLt (xs.getD j .none) (ys.getD j .none)) ⟨_, h1, h2, _, h3⟩ ⟨_, k1, k2, _, k3⟩ (fun j j1 j2 => ?_) (fun j j1 j2 hj => ?_) ?_))
      · have := eqAt_alikeAll xs ys A.in1 s vs.toList vs'.toList _ _ h4 k4 hal (room_in hu) j (by simpa using j1) (by simpa using j2)
        simpa using this
      · have := rcLt_alikeAll xs ys A.in1 s vs.toList vs'.toList _ _ h4 k4 hal (room_in hu) j (by simpa using j1) (by simpa using j2) hj
        simpa using this
      · exact wpAny_truthy_bool hq
theorem sorts_empty {v₁ : Value} {vs : List Value} {lss : List (List Str)} (e : EachIs (fun v d => ∃ as, Reads s.heap v d as) (v₁ :: vs) (([] :: lss).map fun ss => PyData.tuple (ss.map PyData.str))) (hu : A.units + 8 < cLine) :
    SortsAt prog w A s (dataKind s.heap (([] :: lss).map fun ss => PyData.tuple (ss.map PyData.str))) (v₁ :: vs) := by
  have hal : AllAlike (([] :: lss).map fun ss => PyData.tuple (ss.map PyData.str)) := fun d hd d' hd' => by
    obtain ⟨x, _, rfl⟩ := List.mem_map.mp hd
    obtain ⟨y, _, rfl⟩ := List.mem_map.mp hd'
    simp only [alike, strs_alike]
  refine ⟨fun v hv => ?_, oneType', ?_, fun h2 E Q hq => ?_⟩
  · obtain ⟨d, hd, as, r⟩ := e.left v hv
    exact ⟨_, dataKind_some hal hd r⟩
  · intro E x y a b Q ha hb hq
    obtain ⟨d, as, hd, ra, rfl⟩ := dataKind_inv ha
    obtain ⟨d', as', hd', rb, rfl⟩ := dataKind_inv hb
    obtain ⟨x, _, rfl⟩ := List.mem_map.mp hd
    obtain ⟨y, _, rfl⟩ := List.mem_map.mp hd'
    rw [keyLt'_oneType]
    refine oneLt_tuplesQ ra rb (strs_alike x y) ?_ hq
    simp only [PyData.depth, strs_depth]
    omega
  · cases e with
    | cons h t =>
      refine kind_empty h (fun v hv => ?_) hq
      obtain ⟨d, hd, as, r⟩ := t.left v hv
      obtain ⟨x, _, rfl⟩ := List.mem_map.mp hd
      exact ⟨x, as, r⟩
/-- sorted(xs), the first one empty -/
theorem sorted_emptyD {β : Type} {R : Value → β → Prop} {enc : β → PyData} {l : Addr} {vs : List Value} {bs : List β} {lss : List (List Str)} {Q : Value → Shared → Prop} (hl : s.heap.IsList l vs.toArray) (e : EachIs R vs bs) (er : EachIs (fun v b => ∃ as, Reads s.heap v (enc b) as) vs bs)
    (hb : bs.map enc = ([] :: lss).map fun ss => PyData.tuple (ss.map PyData.str)) (hL : bs.length ≤ sizeLine) (hu : A.units + 16 < cLine)
    (h : ∀ out, out.length = bs.length → EachIs R out (bs.mergeSort (dataLe false enc)) → Q (.ref (s.heap.objs.size + 1)) { s with heap := sortedAll s.heap vs (List.toArray out) }) :
    wpAny (model prog w) A (call (.builtin "sorted") [.ref l]) Q E s := by
  have er' : EachIs (fun v b => ∃ as, Reads (sortingHeap (copyHeap s.heap vs) (s.heap.objs.size + 1) vs) v (enc b) as) vs bs := er.mono fun _ _ ⟨as, r⟩ => ⟨as, PyProof.Rows.Reads.keeps (fun _ _ => sorting_copy_old) r⟩
  have e1 := each_map (R := fun v d => ∃ as, Reads (sortingHeap (copyHeap s.heap vs) (s.heap.objs.size + 1) vs) v d as) enc er'
  have hal : AllAlike (bs.map enc) := by
    rw [hb]
    exact fun d hd d' hd' => by
      obtain ⟨x, _, rfl⟩ := List.mem_map.mp hd
      obtain ⟨y, _, rfl⟩ := List.mem_map.mp hd'
      simp only [alike, strs_alike]
  have S : SortsAt prog w A.in1.in1 { s with heap := sortingHeap (copyHeap s.heap vs) (s.heap.objs.size + 1) vs } (dataKind (sortingHeap (copyHeap s.heap vs) (s.heap.objs.size + 1) vs) (bs.map enc)) vs := by
    rw [hb] at e1 ⊢
    cases vs with
    | nil => cases e1
    | cons v₁ vs => exact sorts_empty (s := { s with heap := sortingHeap (copyHeap s.heap (v₁ :: vs)) (s.heap.objs.size + 1) (v₁ :: vs) }) e1 (by simp only [Around.in1_units]; omega)
  exact sorted_vals hl S (by rw [e.length]; exact hL) (h _ (by rw [sortVals_length false rfl]; exact e.length) (sortVals_data false e er' hal))
end
end Lo
namespace Gy
open PySem L2 PySem.Spec PyProof.Rows
/-! ### the order of lots -/
def leL : List Str → List Str → Bool := PySem.W.dataLe false fun ss : List Str => PyData.tuple (ss.map PyData.str)
def sortL (l : List (List Str)) : List (List Str) := l.mergeSort leL
theorem toks_inj : ∀ x y : List Str, PySem.W.keyToksAll (x.map PyData.str) = PySem.W.keyToksAll (y.map PyData.str) → x = y
  | [], [], _ => rfl
  | [], y :: ys, h => by simp [PySem.W.keyToksAll] at h
  | x :: xs, [], h => by simp [PySem.W.keyToksAll] at h
  | x :: xs, y :: ys, h => by
    simp only [List.map_cons, PySem.W.keyToksAll, PySem.W.keyToks, List.cons_append, List.nil_append, List.cons.injEq, Sum.inr.injEq, true_and] at h
    rw [str_ext h.1, toks_inj xs ys h.2]
theorem leL_total : PySem.W.TotalLe leL := PySem.W.sortLe_total (PyProof.Rows.listOrd PyProof.Rows.itemOrd) false fun ss : List Str => PySem.W.keyToks (PyData.tuple (ss.map PyData.str))
theorem leL_anti {x y : List Str} (h1 : leL x y = true) (h2 : leL y x = true) : x = y := by
  unfold leL at h1 h2
  rw [PySem.W.dataLe_eq] at h1 h2
  simp only [cond_false, Bool.not_eq_true'] at h1 h2
  refine toks_inj x y ?_
  rw [PySem.W.dataLt_tuple] at h1 h2
  exact (PyProof.Rows.lex_total _ _ h2 h1)
theorem sortL_perm (l : List (List Str)) : (sortL l).Perm l := List.mergeSort_perm l _
theorem sortL_asc (l : List (List Str)) : (sortL l).Pairwise fun x y => leL x y = true := PySem.W.sort_pairwise leL_total l
theorem sortL_of {a l : List (List Str)} (hp : a.Perm l) (ha : a.Pairwise fun x y => leL x y = true) : a = sortL l :=
  hp.trans (sortL_perm l).symm |>.eq_of_pairwise (le := fun x y => leL x y = true) (fun a b _ _ h1 h2 => leL_anti h1 h2) ha (sortL_asc l)
theorem leL_nil (x : List Str) : leL [] x = true := by
  unfold leL
  rw [PySem.W.dataLe_eq]
  simp only [cond_false, Bool.not_eq_true']
  rw [PySem.W.dataLt_tuple]
  cases x with
  | nil => exact PyProof.Rows.lex_irrefl _
  | cons a as =>
    simp only [List.map_cons, List.map_nil, PySem.W.keyToksAll]
    rfl
end Gy

namespace Gy
open PySem L2 PySem.Spec PyProof.Rows
open PySem.W (EachIs AllAlike Sortable dataLe)
/-! ### sorted(lots), sorted(pairs of a number and a lot): the rules -/
theorem each_refs' {α : Type} : ∀ {vs : List Value} {bs : List (Addr × α)}, EachIs (fun v p => v = Value.ref p.1) vs bs → vs = bs.map fun p => Value.ref p.1
  | _, _, .nil => rfl
  | _, _, .cons e t => by rw [List.map_cons, ← each_refs' t, e]
theorem refs_each' {α : Type} : ∀ (bs : List (Addr × α)), EachIs (fun v p => v = Value.ref p.1) (bs.map fun p => Value.ref p.1) bs
  | [] => .nil
  | _ :: bs => .cons rfl (refs_each' bs)
theorem each_of' {α : Type} {R : Value → Addr × α → Prop} : ∀ (bs : List (Addr × α)), (∀ p ∈ bs, R (.ref p.1) p) → EachIs R (bs.map fun p => Value.ref p.1) bs
  | [], _ => .nil
  | b :: bs, h => .cons (h b List.mem_cons_self) (each_of' bs fun p m => h p (List.mem_cons_of_mem _ m))
theorem refs_of' {α : Type} : ∀ {ks : List (Addr × α)} {us : List Value}, Vals (ks.map fun p => V.ref p.1) us → us = ks.map fun p => Value.ref p.1
  | [], _, r => by cases r; rfl
  | k :: ks, _, r => by
    cases r with
    | cons r1 rs =>
      rw [List.map_cons, ← refs_of' rs]
      cases r1
      rfl
theorem vals_refs' {α : Type} : ∀ (ks : List (Addr × α)), Vals (ks.map fun p => V.ref p.1) (ks.map fun p => Value.ref p.1)
  | [] => .nil
  | _ :: ks => .cons rfl (vals_refs' ks)
theorem rp_addr {α : Type} {f : α → D} {K : PySem.W.Frag} {H : Hp} (hf : ∀ (v : V) (x : α), Rp K H v (f x) → ∃ a, v = .ref a) : ∀ {vs : List V} {xs : List α}, RpAll K H vs (xs.map f) → ∃ ks : List (Addr × α), vs = ks.map (fun p => V.ref p.1) ∧ ks.map (·.2) = xs ∧ ∀ p ∈ ks, Rp K H (.ref p.1) (f p.2)
  | _, [], .nil => ⟨[], rfl, rfl, fun p m => absurd m List.not_mem_nil⟩
  | _, x :: xs, .cons r rs => by
    obtain ⟨ks, e1, e2, e3⟩ := rp_addr hf rs
    obtain ⟨a, rfl⟩ := hf _ _ r
    refine ⟨(a, x) :: ks, by rw [List.map_cons, e1], by rw [List.map_cons, e2], fun p m => ?_⟩
    rcases List.mem_cons.mp m with z | z
    · rw [z]; exact r
    · exact e3 p z
theorem rp_of_addr {α : Type} {f : α → D} {K : PySem.W.Frag} {H : Hp} : ∀ {ks : List (Addr × α)}, (∀ p ∈ ks, Rp K H (.ref p.1) (f p.2)) → RpAll K H (ks.map fun p => V.ref p.1) ((ks.map (·.2)).map f)
  | [], _ => .nil
  | p :: ks, h => .cons (h p List.mem_cons_self) (rp_of_addr fun q m => h q (List.mem_cons_of_mem _ m))
abbrev encL (p : Addr × List Str) : PyData := .tuple (p.2.map PyData.str)
def pairD (ss : List Str) : D := .tup [.int (ss.length : Nat), lotD ss]
abbrev encP (p : Addr × List Str) : PyData := .tuple [.int (p.2.length : Nat), .tuple (p.2.map PyData.str)]
theorem pair_le {p q : Addr × List Str} (h : dataLe false encP p q = true) : p.2.length ≤ q.2.length := by
  rw [PySem.W.dataLe_eq] at h
  simp only [cond_false, Bool.not_eq_true'] at h
  rw [PySem.W.dataLt_pair (by rfl) (by simp only [PySem.W.alike, Lo.strs_alike])] at h
  by_cases e : PyData.eqv (.int (q.2.length : Nat)) (.int (p.2.length : Nat)) = true
  · have : ((q.2.length : Nat) : Int) = (p.2.length : Nat) := by simpa [PyData.eqv] using e
    omega
  · rw [if_neg e, PySem.W.dataLt_int] at h
    have := of_decide_eq_false h
    omega
section
variable {X : Cx}
def rSortedLots (K : PySem.W.Frag) : List V → Hp → VK → Prop := fun vs H Q => ∃ (a : Addr) (xs : List V) (lss : List (List Str)), vs = [V.ref a] ∧ SqL K H a xs ∧ RpAll K H xs (lss.map lotD) ∧ ((∃ r, lss = [] :: r) ∨ ∀ ss ∈ lss, ss ≠ []) ∧ ∀ ys p, RpAll K H ys ((sortL lss).map lotD) → H p = none → Q (.ref p) (upd H p (.lst ys))
theorem cr_sortedLots (hu : X.A.units + 64 < cLine) : CallR X (.builtin "sorted") (rSortedLots X.K) := by
  intro pins s σ H vs us Q I r h
  obtain ⟨a, xs, lss, rfl, hs, rx, hc, q⟩ := h
  obtain ⟨its, rv, hl, hz⟩ := I.list hs
  obtain ⟨u, rfl, ru⟩ := vals1 r
  obtain rfl : u = Value.ref a := ru
  obtain ⟨ks, rfl, e2, e3⟩ := rp_addr (f := lotD) (fun v x r => (lot_rp r).imp fun t h => h.1) rx
  have ei := refs_of' rv
  subst ei
  have len : ks.length ≤ sizeLine := by simpa using hz
  have er : EachIs (fun v b => ∃ as, Reads s.heap v (encL b) as) (ks.map fun p => Value.ref p.1) ks := each_of' ks fun p hp => lot_reads I (e3 p hp) rfl
  have fin : ∀ out : List Value, out.length = ks.length → EachIs (fun v p => v = Value.ref p.1) out (ks.mergeSort (dataLe false encL)) → ∃ v H', Inv X pins σ H' { s with heap := sortedAll s.heap (ks.map fun p => Value.ref p.1) out.toArray } ∧ RelV v (.ref (s.heap.objs.size + 1)) ∧ Q v H' := fun out lo each => by
    have eo := each_refs' each
    have pm := List.mergeSort_perm ks (dataLe false encL)
    have es : (ks.mergeSort (dataLe false encL)).map (·.2) = sortL lss := by
      refine sortL_of (by rw [← e2]; exact pm.map _) ?_
      have q : (ks.mergeSort (dataLe false encL)).Pairwise (fun a b => dataLe false encL a b = true) := PySem.W.sort_pairwise (PySem.W.sortLe_total _ _ _) ks
      exact List.pairwise_map.mpr (q.imp fun h => h)
    obtain ⟨n, hn⟩ := sortedAll_at s.heap (ks.map fun p => Value.ref p.1) out.toArray
    have nd : H (s.heap.objs.size + 1) = none := I.hok.fresh (Nat.le_succ _)
    refine ⟨.ref (s.heap.objs.size + 1), upd H (s.heap.objs.size + 1) (.lst ((ks.mergeSort (dataLe false encL)).map fun p => V.ref p.1)), I.laid (t' := s.toks) (fun b o e => sortedAll_old e) (Nat.le_succ _) ⟨?_, out, n, by rw [eo]; exact vals_refs' _, hn⟩, rfl, q _ _ ?_ nd⟩
    · rw [List.length_map, pm.length_eq]; exact len
    · rw [← es]
      exact rp_of_addr fun p hp => e3 p (pm.mem_iff.mp hp)
  rcases hc with ⟨r', hr'⟩ | hne
  · refine Lo.sorted_emptyD (lss := r') hl.isList (refs_each' ks) er ?_ len (by omega) fun out lo each => fin out lo each
    rw [← hr', ← e2, List.map_map]
    rfl
  · refine PySem.W.sorted_data hl.isList (refs_each' ks) er ?_ ?_ len (fun b hb => ?_) fun out lo each => fin out lo each
    · intro d hd d' hd'
      obtain ⟨x, _, rfl⟩ := List.mem_map.mp hd
      obtain ⟨y, _, rfl⟩ := List.mem_map.mp hd'
      simp only [PySem.W.alike, Lo.strs_alike]
    · refine .inl fun d hd => ?_
      obtain ⟨x, hx, rfl⟩ := List.mem_map.mp hd
      have hx2 : x.2 ∈ lss := by rw [← e2]; exact List.mem_map_of_mem hx
      cases hss : x.2 with
      | nil => exact absurd hss (hne _ hx2)
      | cons t ts => exact ⟨.str t, ts.map PyData.str, by simp only [encL, hss, List.map_cons]⟩
    · simp only [encL, PyData.depth, Lo.strs_depth]
      omega
def rSortedPr (K : PySem.W.Frag) : List V → Hp → VK → Prop := fun vs H Q => ∃ (a : Addr) (xs : List V) (lss : List (List Str)), vs = [V.ref a] ∧ SqL K H a xs ∧ RpAll K H xs (lss.map pairD) ∧ ∀ (ys : List V) (p : Addr) (lss' : List (List Str)), RpAll K H ys (lss'.map pairD) → lss'.Perm lss → (lss'.Pairwise fun x y => x.length ≤ y.length) → H p = none → Q (.ref p) (upd H p (.lst ys))
theorem pair_rp {K : PySem.W.Frag} {H : Hp} {v : V} {ss : List Str} (r : Rp K H v (pairD ss)) : ∃ t u, v = .ref t ∧ H t = some (.tup [.int (ss.length : Nat), .ref u]) ∧ Rp K H (.ref u) (lotD ss) := by
  unfold pairD at r
  cases r with
  | tup e r =>
    cases r with
    | cons r1 r =>
      cases r with
      | cons r2 r =>
        cases r
        cases r1
        obtain ⟨u, rfl, _⟩ := lot_rp r2
        exact ⟨_, u, rfl, e, r2⟩
theorem cr_sortedPr (hu : X.A.units + 64 < cLine) : CallR X (.builtin "sorted") (rSortedPr X.K) := by
  intro pins s σ H vs us Q I r h
  obtain ⟨a, xs, lss, rfl, hs, rx, q⟩ := h
  obtain ⟨its, rv, hl, hz⟩ := I.list hs
  obtain ⟨u, rfl, ru⟩ := vals1 r
  obtain rfl : u = Value.ref a := ru
  obtain ⟨ks, rfl, e2, e3⟩ := rp_addr (f := pairD) (fun v x r => by obtain ⟨t, _, e, _⟩ := pair_rp r; exact ⟨t, e⟩) rx
  have ei := refs_of' rv
  subst ei
  have len : ks.length ≤ sizeLine := by simpa using hz
  have er : EachIs (fun v b => ∃ as, Reads s.heap v (encP b) as) (ks.map fun p => Value.ref p.1) ks := each_of' ks fun p hp => by
    have rr := e3 p hp
    have pl : (pairD p.2).plain = true := by unfold pairD lotD; simp only [D.plain, D.plainAll, plain_strs, Bool.and_self]
    obtain ⟨as, q⟩ := Dp.reads I _ _ _ (rr.dp pl) (show RelV (.ref p.1) (.ref p.1) from rfl)
    have e : (pairD p.2).py = encP p := by unfold pairD lotD; simp only [D.py, D.pyAll, py_strs]
    rw [e] at q
    exact ⟨as, q⟩
  refine PySem.W.sorted_data hl.isList (refs_each' ks) er ?_ ?_ len (fun b hb => ?_) fun out lo each => ?_
  · intro d hd d' hd'
    obtain ⟨x, _, rfl⟩ := List.mem_map.mp hd
    obtain ⟨y, _, rfl⟩ := List.mem_map.mp hd'
    simp only [PySem.W.alike, PySem.W.alikeAll, Lo.strs_alike, Bool.and_self]
  · refine .inl fun d hd => ?_
    obtain ⟨x, hx, rfl⟩ := List.mem_map.mp hd
    exact ⟨_, _, rfl⟩
  · simp only [encP, PyData.depth, PyData.depthAll, Lo.strs_depth]
    omega
  · have eo := each_refs' each
    have pm := List.mergeSort_perm ks (dataLe false encP)
    obtain ⟨n, hn⟩ := sortedAll_at s.heap (ks.map fun p => Value.ref p.1) out.toArray
    have nd : H (s.heap.objs.size + 1) = none := I.hok.fresh (Nat.le_succ _)
    refine ⟨.ref (s.heap.objs.size + 1), upd H (s.heap.objs.size + 1) (.lst ((ks.mergeSort (dataLe false encP)).map fun p => V.ref p.1)), I.laid (t' := s.toks) (fun b o e => sortedAll_old e) (Nat.le_succ _) ⟨?_, out, n, by rw [eo]; exact vals_refs' _, hn⟩, rfl, q _ _ ((ks.mergeSort (dataLe false encP)).map (·.2)) ?_ ?_ ?_ nd⟩
    · rw [List.length_map, pm.length_eq]; exact len
    · exact rp_of_addr fun p hp => e3 p (pm.mem_iff.mp hp)
    · rw [← e2]; exact pm.map _
    · exact List.pairwise_map.mpr ((PySem.W.sort_pairwise (PySem.W.sortLe_total _ _ _) ks).imp fun h => pair_le h)
end
end Gy

namespace Gy
open PySem L2 PySem.Spec PyProof.Rows
/-! ### lots of rows -/
def stepL (acc : List (List Str)) (r : Str) : List (List Str) := acc ++ acc.map fun a => a ++ [r]
def lotsL (rows : List Str) : List (List Str) := rows.foldl stepL [[]]
theorem lotsL_take {rows : List Str} {i : Nat} {r : Str} (h : rows[i]? = some r) : lotsL (rows.take (i + 1)) = stepL (lotsL (rows.take i)) r := by
  unfold lotsL
  rw [List.take_succ, h, List.foldl_append]
  rfl
theorem mem_fold : ∀ (rows : List Str) (acc : List (List Str)) (x : List Str), x ∈ rows.foldl stepL acc ↔ ∃ a ∈ acc, ∃ s, s.Sublist rows ∧ x = a ++ s
  | [], acc, x => by
    simp only [List.foldl_nil, List.sublist_nil]
    exact ⟨fun h => ⟨x, h, [], rfl, by rw [List.append_nil]⟩, fun ⟨a, ha, s, hs, e⟩ => by rw [e, hs, List.append_nil]; exact ha⟩
  | r :: rows, acc, x => by
    rw [List.foldl_cons, mem_fold rows (stepL acc r) x]
    constructor
    · rintro ⟨a, ha, s, hs, rfl⟩
      rcases List.mem_append.mp ha with z | z
      · exact ⟨a, z, s, hs.cons r, rfl⟩
      · obtain ⟨a', ha', rfl⟩ := List.mem_map.mp z
        exact ⟨a', ha', r :: s, hs.cons₂ r, by rw [List.append_assoc]; rfl⟩
    · rintro ⟨a, ha, s, hs, rfl⟩
      cases hs with
      | cons _ hs => exact ⟨a, List.mem_append_left _ ha, s, hs, rfl⟩
      | cons_cons _ hs => exact ⟨a ++ [r], List.mem_append_right _ (List.mem_map_of_mem ha), _, hs, by rw [List.append_assoc]; rfl⟩
theorem mem_lots {rows x : List Str} : x ∈ lotsL rows ↔ x.Sublist rows := by
  unfold lotsL
  rw [mem_fold]
  constructor
  · rintro ⟨a, ha, s, hs, rfl⟩
    rw [List.mem_singleton.mp ha]
    exact hs
  · intro h
    exact ⟨[], List.mem_singleton.mpr rfl, x, h, rfl⟩
theorem nodup_fold : ∀ (rows : List Str) (acc : List (List Str)), rows.Nodup → acc.Nodup → (∀ a ∈ acc, ∀ r ∈ rows, r ∉ a) → (rows.foldl stepL acc).Nodup
  | [], acc, _, h, _ => h
  | r :: rows, acc, nd, h, hd => by
    rw [List.foldl_cons]
    obtain ⟨n1, n2⟩ := List.nodup_cons.mp nd
    refine nodup_fold rows _ n2 ?_ fun a ha x hx => ?_
    · unfold stepL
      rw [List.nodup_append]
      refine ⟨h, List.Pairwise.map _ (fun a b hne e => hne (List.append_cancel_right e)) h, fun a ha b hb e => ?_⟩
      obtain ⟨c, hc, rfl⟩ := List.mem_map.mp hb
      exact hd a ha r List.mem_cons_self (by rw [e]; exact List.mem_append_right _ List.mem_cons_self)
    · rcases List.mem_append.mp ha with z | z
      · exact hd a z x (List.mem_cons_of_mem _ hx)
      · obtain ⟨c, hc, rfl⟩ := List.mem_map.mp z
        intro y
        rcases List.mem_append.mp y with y | y
        · exact hd c hc x (List.mem_cons_of_mem _ hx) y
        · rw [List.mem_singleton.mp y] at hx
          exact n1 hx
theorem lots_nodup {rows : List Str} (h : rows.Nodup) : (lotsL rows).Nodup := nodup_fold rows [[]] h (List.nodup_cons.mpr ⟨List.not_mem_nil, List.nodup_nil⟩) fun a ha r _ => by
  rw [List.mem_singleton.mp ha]
  exact List.not_mem_nil
theorem len_fold : ∀ (rows : List Str) (acc : List (List Str)), (rows.foldl stepL acc).length = acc.length * 2 ^ rows.length
  | [], acc => by simp
  | r :: rows, acc => by
    rw [List.foldl_cons, len_fold rows, List.length_cons, Nat.pow_succ]
    unfold stepL
    rw [List.length_append, List.length_map]
    have : acc.length + acc.length = acc.length * 2 := by omega
    rw [this, Nat.mul_assoc, Nat.mul_comm 2]
theorem lots_len (rows : List Str) : (lotsL rows).length = 2 ^ rows.length := by
  unfold lotsL
  rw [len_fold]
  simp
theorem head_fold : ∀ (rows : List Str) (acc : List (List Str)), (∃ r, acc = [] :: r) → ∃ r, rows.foldl stepL acc = [] :: r
  | [], _, h => h
  | x :: rows, acc, ⟨r, e⟩ => by
    rw [List.foldl_cons]
    exact head_fold rows _ ⟨r ++ acc.map fun a => a ++ [x], by rw [e]; rfl⟩
theorem lots_head (rows : List Str) : ∃ r, lotsL rows = [] :: r := head_fold rows [[]] ⟨[], rfl⟩
/-- within -/
def subB (x y : List Str) : Bool := x.all fun t => decide (t ∈ y)
theorem subB_iff {x y : List Str} : subB x y = true ↔ ∀ t ∈ x, t ∈ y := by
  unfold subB
  rw [List.all_eq_true]
  exact ⟨fun h t ht => of_decide_eq_true (h t ht), fun h t ht => decide_eq_true (h t ht)⟩
theorem subl_filter : ∀ {x rows : List Str}, x.Sublist rows → rows.Nodup → x = rows.filter fun t => decide (t ∈ x)
  | _, _, .slnil, _ => rfl
  | x, r :: rows, .cons _ h, nd => by
    obtain ⟨n1, n2⟩ := List.nodup_cons.mp nd
    have hn : r ∉ x := fun z => n1 (h.subset z)
    rw [List.filter_cons, if_neg (by rw [decide_eq_false hn]; decide)]
    exact subl_filter h n2
  | r :: x, _ :: rows, .cons₂ _ h, nd => by
    obtain ⟨n1, n2⟩ := List.nodup_cons.mp nd
    rw [List.filter_cons, if_pos (decide_eq_true List.mem_cons_self)]
    congr 1
    have e := subl_filter h n2
    conv => lhs; rw [e]
    refine List.filter_congr fun t ht => decide_eq_decide.mpr ⟨fun z => List.mem_cons_of_mem _ z, fun z => ?_⟩
    rcases List.mem_cons.mp z with y | y
    · rw [y] at ht
      exact absurd ht n1
    · exact y
theorem sub_eq {x y rows : List Str} (nd : rows.Nodup) (hx : x.Sublist rows) (hy : y.Sublist rows) (h1 : subB x y = true) (h2 : subB y x = true) : x = y := by
  rw [subl_filter hx nd, subl_filter hy nd]
  exact List.filter_congr fun t _ => decide_eq_decide.mpr ⟨subB_iff.mp h1 t, subB_iff.mp h2 t⟩
theorem sub_len_eq {x y rows : List Str} (nd : rows.Nodup) (hx : x.Sublist rows) (hy : y.Sublist rows) (h1 : subB x y = true) (h : y.length ≤ x.length) : x = y := by
  refine sub_eq nd hx hy h1 (subB_iff.mpr fun t ht => ?_)
  by_cases hm : t ∈ x
  · exact hm
  · have q := nodup_sub (l := t :: x) (m := y) (List.nodup_cons.mpr ⟨hm, nd.sublist hx⟩) fun z hz => by
      rcases List.mem_cons.mp hz with e | e
      · rw [e]; exact ht
      · exact subB_iff.mp h1 z e
    rw [List.length_cons] at q
    omega
theorem sub_trans {x y z : List Str} (h1 : subB x y = true) (h2 : subB y z = true) : subB x z = true := subB_iff.mpr fun t ht => subB_iff.mp h2 t (subB_iff.mp h1 t ht)
theorem sub_refl (x : List Str) : subB x x = true := subB_iff.mpr fun _ h => h
/-! ### least ones -/
def minB (ls : List (List Str)) (l : List Str) : Bool := (ls.filter fun o => decide (o ≠ l) && subB o l).isEmpty
theorem minB_iff {ls : List (List Str)} {l : List Str} : minB ls l = true ↔ ∀ o ∈ ls, subB o l = true → o = l := by
  unfold minB
  rw [List.isEmpty_iff, List.filter_eq_nil_iff]
  constructor
  · intro h o ho s
    by_cases e : o = l
    · exact e
    · exact absurd (by rw [decide_eq_true e, s]; rfl) (h o ho)
  · intro h o ho z
    simp only [Bool.and_eq_true, decide_eq_true_eq] at z
    exact z.1 (h o ho z.2)
def minL (ls : List (List Str)) : List (List Str) := ls.filter (minB ls)
theorem minB_perm {l m : List (List Str)} (p : l.Perm m) : minB l = minB m := by
  funext x
  cases h : minB m x with
  | true => exact minB_iff.mpr fun o ho s => minB_iff.mp h o (p.mem_iff.mp ho) s
  | false =>
    cases h' : minB l x with
    | false => rfl
    | true =>
      have : minB m x = true := minB_iff.mpr fun o ho s => minB_iff.mp h' o (p.mem_iff.mpr ho) s
      rw [h] at this
      cases this
theorem minL_perm {l m : List (List Str)} (p : l.Perm m) : (minL l).Perm (minL m) := by
  unfold minL
  rw [minB_perm p]
  exact p.filter _
theorem sortL_perm_eq {l m : List (List Str)} (p : l.Perm m) : sortL l = sortL m := sortL_of ((sortL_perm l).trans p) (sortL_asc l)
/-- what the law keeps: of the sorted ones those that are least -/
theorem least_law (ls : List (List Str)) : (sortL ls).filter (minB ls) = sortL (minL ls) := by
  refine sortL_of ?_ ((sortL_asc ls).sublist List.filter_sublist)
  unfold minL
  exact (sortL_perm ls).filter _
/-- what the package keeps, one after the other -/
structure Kept (ls : List (List Str)) (j : Nat) (found : List (List Str)) : Prop where
  nd : found.Nodup
  sub : ∀ l ∈ found, l ∈ ls
  cov : ∀ l ∈ ls.take j, ∃ o ∈ found, subB o l = true
  min : ∀ l ∈ found, minB ls l = true
theorem Kept.start (ls : List (List Str)) : Kept ls 0 [] := ⟨List.nodup_nil, (fun l m => absurd m List.not_mem_nil), (fun l m => by rw [List.take_zero] at m; cases m), (fun l m => absurd m List.not_mem_nil)⟩
theorem pw_before {ls : List (List Str)} (pw : ls.Pairwise fun x y => x.length ≤ y.length) {j : Nat} {l o : List Str} (hl : ls[j]? = some l) (ho : o ∈ ls) (h : o.length < l.length) : o ∈ ls.take j := by
  obtain ⟨i, hi⟩ := List.getElem?_of_mem ho
  obtain ⟨il, ei⟩ := List.getElem?_eq_some_iff.mp hi
  obtain ⟨jl, ej⟩ := List.getElem?_eq_some_iff.mp hl
  rcases Nat.lt_or_ge i j with z | z
  · have : (ls.take j)[i]? = some o := by rw [List.getElem?_take_of_lt z]; exact hi
    exact List.mem_of_getElem? this
  · rcases Nat.eq_or_lt_of_le z with e | z
    · subst e
      rw [hi] at hl
      cases hl
      omega
    · have q := List.pairwise_iff_getElem.mp pw j i jl il z
      rw [ei, ej] at q
      omega
theorem Kept.next {ls : List (List Str)} {rows : List Str} {j : Nat} {found : List (List Str)} {l : List Str} (k : Kept ls j found) (nd : rows.Nodup) (sl : ∀ l ∈ ls, l.Sublist rows) (pw : ls.Pairwise fun x y => x.length ≤ y.length) (hl : ls[j]? = some l) :
    Kept ls (j + 1) (found ++ if (!(found.any fun o => subB o l)) = true then [l] else []) := by
  have lin := List.mem_of_getElem? hl
  have et : ls.take (j + 1) = ls.take j ++ [l] := by rw [List.take_succ, hl]; rfl
  cases h : found.any fun o => subB o l with
  | true =>
    rw [Bool.not_true, if_neg (by decide), List.append_nil]
    refine ⟨k.nd, k.sub, fun x hx => ?_, k.min⟩
    rw [et] at hx
    rcases List.mem_append.mp hx with z | z
    · exact k.cov x z
    · rw [List.mem_singleton.mp z]
      exact List.any_eq_true.mp h
  | false =>
    rw [Bool.not_false, if_pos rfl]
    have none : ∀ o ∈ found, subB o l = true → False := fun o ho s => by
      have : (found.any fun o => subB o l) = true := List.any_eq_true.mpr ⟨o, ho, s⟩
      rw [h] at this
      cases this
    refine ⟨List.nodup_append.mpr ⟨k.nd, List.nodup_cons.mpr ⟨List.not_mem_nil, List.nodup_nil⟩, fun a ha b hb e => ?_⟩, fun x hx => ?_, fun x hx => ?_, fun x hx => ?_⟩
    · rw [List.mem_singleton.mp hb] at e
      rw [e] at ha
      exact none l ha (sub_refl l)
    · rcases List.mem_append.mp hx with z | z
      · exact k.sub x z
      · rw [List.mem_singleton.mp z]; exact lin
    · rw [et] at hx
      rcases List.mem_append.mp hx with z | z
      · obtain ⟨o, ho, s⟩ := k.cov x z
        exact ⟨o, List.mem_append_left _ ho, s⟩
      · rw [List.mem_singleton.mp z]
        exact ⟨l, List.mem_append_right _ List.mem_cons_self, sub_refl l⟩
    · rcases List.mem_append.mp hx with z | z
      · exact k.min x z
      · rw [List.mem_singleton.mp z]
        refine minB_iff.mpr fun o ho s => ?_
        by_cases hlen : l.length ≤ o.length
        · exact sub_len_eq nd (sl o ho) (sl l lin) s hlen
        · obtain ⟨o', ho', s'⟩ := k.cov o (pw_before pw hl ho (by omega))
          exact (none o' ho' (sub_trans s' s)).elim
theorem Kept.fin {ls : List (List Str)} {rows : List Str} {found : List (List Str)} (k : Kept ls ls.length found) (ndl : ls.Nodup) : found.Perm (minL ls) := by
  have cov := k.cov
  rw [List.take_length] at cov
  have q : ∀ {l m : List (List Str)}, l.Nodup → m.Nodup → (∀ x, x ∈ l ↔ x ∈ m) → l.Perm m := fun a b c => perm_of_iff a b c
  refine q k.nd (ndl.sublist List.filter_sublist) fun x => ⟨fun h => List.mem_filter.mpr ⟨k.sub x h, k.min x h⟩, fun h => ?_⟩
  obtain ⟨hx, hm⟩ := List.mem_filter.mp h
  obtain ⟨o, ho, s⟩ := cov x hx
  rw [← minB_iff.mp hm o (k.sub o ho) s]
  exact ho
/-- least ones: either the empty one alone or none of them is empty -/
theorem min_cond {ls : List (List Str)} {found : List (List Str)} (p : found.Perm (minL ls)) (nd : found.Nodup) : (∃ r, found = [] :: r) ∨ ∀ l ∈ found, l ≠ [] := by
  by_cases h : [] ∈ found
  · refine .inl ?_
    have hm := List.mem_filter.mp (p.mem_iff.mp h)
    have one : ∀ l ∈ found, l = [] := fun l hl => by
      have hl' := List.mem_filter.mp (p.mem_iff.mp hl)
      exact (minB_iff.mp hl'.2 [] hm.1 (subB_iff.mpr fun t ht => absurd ht List.not_mem_nil)).symm
    cases found with
    | nil => cases h
    | cons a as => exact ⟨as, by rw [one a List.mem_cons_self]⟩
  · exact .inr fun l hl e => h (e ▸ hl)
end Gy

namespace Gy
open PySem L2 PySem.Spec PyProof.Rows
/-! ### the part of a rulebook by some rows -/
def rowIn (l : List Str) : Nd → Bool
  | .row r _ _ => decide (r ∈ l)
  | .knd _ _ _ _ => true
def rowsIn (l : List Str) (g : List Nd) : Bool := g.all (rowIn l)
def Kd.part (l : List Str) (k : Kd) : Kd := ⟨k.name, k.keep, k.bar, k.gs.filter (rowsIn l)⟩
def Bk.part (B : Bk) (l : List Str) : Bk := ⟨B.rows, B.kinds.map (Kd.part l)⟩
def rowsBut (rows l : List Str) : List Str := rows.filter fun r => !decide (r ∈ l)
theorem part_names (B : Bk) (l : List Str) : (B.part l).names = B.names := by
  unfold Bk.names Bk.part
  rw [List.map_map]
  rfl
theorem part_ok {B : Bk} (ok : BOk B) (l : List Str) : BOk (B.part l) := by
  refine ⟨ok.rows, by rw [part_names]; exact ok.names, fun k' hk' => ?_⟩
  rw [part_names]
  obtain ⟨k, hk, rfl⟩ := List.mem_map.mp hk'
  have o := ok.kinds k hk
  exact ⟨o.keep, o.bar, fun g hg => o.gs g (List.mem_filter.mp hg).1, Nat.le_trans (List.length_filter_le _ _) o.len, o.nd.sublist List.filter_sublist, o.asc.sublist (List.filter_sublist.map gd)⟩
theorem part_keep {B : Bk} (ok : BOk B) (l : List Str) {n : Str} (hn : n ∈ B.names) : (B.part l).keepOf n = B.keepOf n := by
  obtain ⟨k, hk, rfl⟩ := ok.kind hn
  rw [keepOf_at ok hk]
  exact keepOf_at (part_ok ok l) (k := k.part l) (List.mem_map_of_mem hk)
theorem part_met {B : Bk} (ok : BOk B) (l ss : List Str) {g : List Nd} (hg : ∀ n ∈ g, n.ok B.rows B.names) : metG (B.part l) ss g = metG B ss g := by
  unfold metG
  induction g with
  | nil => rfl
  | cons n g ih =>
    rw [List.all_cons, List.all_cons, ih fun n hn => hg n (List.mem_cons_of_mem _ hn)]
    congr 1
    have o := hg n List.mem_cons_self
    cases n with
    | row r t m => rfl
    | knd nm a t m =>
      show (decide (nm ∈ ss) && decide (a < (B.part l).keepOf nm)) = (decide (nm ∈ ss) && decide (a < B.keepOf nm))
      rw [part_keep ok l o.1]
theorem LS.mono_right {B : Bk} {r r' : List Str → List Nd → Bool} (h : ∀ k ∈ B.kinds, ∀ g ∈ k.gs, ∀ l, r l g = true → r' l g = true) {x : Str} (hx : LS B r x) : LS B r' x := by
  induction hx with
  | mk k l hk _ a ih =>
    obtain ⟨g, hg, hr⟩ := List.any_eq_true.mp a
    exact .mk k l hk ih (List.any_eq_true.mpr ⟨g, hg, h k hk g hg l hr⟩)
theorem but_on {B : Bk} {l : List Str} {g : List Nd} (hg : ∀ n ∈ g, n.ok B.rows B.names) : (!(g.any (onS (rowsBut B.rows l)))) = rowsIn l g := by
  unfold rowsIn
  induction g with
  | nil => rfl
  | cons n g ih =>
    rw [List.any_cons, List.all_cons, ← ih fun n hn => hg n (List.mem_cons_of_mem _ hn), Bool.not_or]
    congr 1
    have o := hg n List.mem_cons_self
    cases n with
    | row r t m =>
      show (!decide (r ∈ rowsBut B.rows l)) = decide (r ∈ l)
      have e : decide (r ∈ rowsBut B.rows l) = !decide (r ∈ l) := by
        unfold rowsBut
        by_cases h : r ∈ l
        · rw [decide_eq_true h]
          exact decide_eq_false fun z => by
            have := (List.mem_filter.mp z).2
            rw [decide_eq_true h] at this
            cases this
        · rw [decide_eq_false h]
          exact decide_eq_true (List.mem_filter.mpr ⟨o.1, by rw [decide_eq_false h]; rfl⟩)
      rw [e, Bool.not_not]
    | knd nm a t m => rfl
theorem part_iff {B : Bk} (ok : BOk B) (l : List Str) {x : Str} : LS (B.part l) (metG (B.part l)) x ↔ LS B (rClean B (rowsBut B.rows l)) x := by
  constructor
  · intro h
    induction h with
    | mk k' ss hk' hs a ih =>
      obtain ⟨k, hk, rfl⟩ := List.mem_map.mp hk'
      obtain ⟨g, hg, hr⟩ := List.any_eq_true.mp a
      obtain ⟨hg1, hg2⟩ := List.mem_filter.mp hg
      have okg := ((ok.kinds k hk).gs g hg1).ok
      refine .mk k ss hk ih (List.any_eq_true.mpr ⟨g, hg1, ?_⟩)
      unfold rClean
      rw [but_on okg, hg2, Bool.and_true, ← part_met ok l ss okg]
      exact hr
  · intro h
    induction h with
    | mk k ss hk hs a ih =>
      obtain ⟨g, hg, hr⟩ := List.any_eq_true.mp a
      have okg := ((ok.kinds k hk).gs g hg).ok
      unfold rClean at hr
      rw [but_on okg, Bool.and_eq_true] at hr
      refine .mk (k.part l) ss (List.mem_map_of_mem hk) ih (List.any_eq_true.mpr ⟨g, List.mem_filter.mpr ⟨hg, hr.2⟩, ?_⟩)
      rw [part_met ok l ss okg]
      exact hr.1
theorem part_bear {B : Bk} (ok : BOk B) (l : List Str) : (B.part l).bear = B.clean (rowsBut B.rows l) := by
  unfold Bk.bear Bk.clean lsL
  rw [part_names]
  exact List.filter_congr fun x _ => congrArg (fun p => @decide p (Classical.propDecidable p)) (propext (part_iff ok l))
/-! ### supports, chokes -/
noncomputable def Bk.good (B : Bk) (n : Str) (l : List Str) : Bool := decide (n ∈ B.clean (rowsBut B.rows l))
noncomputable def Bk.bad (B : Bk) (n : Str) (l : List Str) : Bool := decide (l ≠ []) && !decide (n ∈ B.clean l)
noncomputable def Bk.sup (B : Bk) (n : Str) : List (List Str) := sortL (minL ((lotsL B.rows).filter (B.good n)))
noncomputable def Bk.chk (B : Bk) (n : Str) : List (List Str) := if n ∈ B.bear then sortL (minL ((lotsL B.rows).filter (B.bad n))) else []
theorem clean_anti {B : Bk} {st st' : List Str} (h : ∀ x ∈ st, x ∈ st') {n : Str} (hn : n ∈ B.clean st') : n ∈ B.clean st := by
  refine mem_lsL.mpr ((mem_lsL.mp hn).mono_right fun k hk g hg l r => ?_)
  unfold rClean at r ⊢
  rw [Bool.and_eq_true] at r ⊢
  refine ⟨r.1, ?_⟩
  have q := r.2
  rw [Bool.not_eq_true', ← Bool.not_eq_true, List.any_eq_true] at q ⊢
  rintro ⟨x, hx, o⟩
  refine q ⟨x, hx, ?_⟩
  cases x with
  | row r t m => exact decide_eq_true (h r (of_decide_eq_true o))
  | knd a b c d => cases o
theorem meet {B : Bk} {n : Str} {s c : List Str} (hs : s ∈ B.sup n) (hc : c ∈ B.chk n) : ∃ r ∈ s, r ∈ c := by
  have h1 := (List.mem_filter.mp (List.mem_filter.mp ((sortL_perm _).mem_iff.mp hs)).1).2
  unfold Bk.chk at hc
  split at hc
  · have h2 := (List.mem_filter.mp ((sortL_perm _).mem_iff.mp hc)).1
    obtain ⟨h3, h4⟩ := List.mem_filter.mp h2
    unfold Bk.bad at h4
    unfold Bk.good at h1
    simp only [Bool.and_eq_true, Bool.not_eq_true', decide_eq_true_eq, decide_eq_false_iff_not] at h1 h4
    refine Classical.byContradiction fun no => h4.2 (clean_anti (fun x hx => ?_) h1)
    refine List.mem_filter.mpr ⟨(mem_lots.mp h3).subset hx, ?_⟩
    rw [decide_eq_false fun y => no ⟨x, y, hx⟩]
    rfl
  · cases hc
theorem sup_sub {B : Bk} {n : Str} {s : List Str} (hs : s ∈ B.sup n) : s.Sublist B.rows := mem_lots.mp (List.mem_filter.mp (List.mem_filter.mp ((sortL_perm _).mem_iff.mp hs)).1).1
theorem chk_sub {B : Bk} {n : Str} {s : List Str} (hs : s ∈ B.chk n) : s.Sublist B.rows := by
  unfold Bk.chk at hs
  split at hs
  · exact mem_lots.mp (List.mem_filter.mp (List.mem_filter.mp ((sortL_perm _).mem_iff.mp hs)).1).1
  · cases hs
theorem sup_len {B : Bk} {n : Str} : (B.sup n).length ≤ 2 ^ B.rows.length := by
  rw [← lots_len]
  unfold Bk.sup
  rw [(sortL_perm _).length_eq]
  exact Nat.le_trans (List.length_filter_le _ _) (List.length_filter_le _ _)
theorem chk_len {B : Bk} {n : Str} : (B.chk n).length ≤ 2 ^ B.rows.length := by
  rw [← lots_len]
  unfold Bk.chk
  split
  · rw [(sortL_perm _).length_eq]
    exact Nat.le_trans (List.length_filter_le _ _) (List.length_filter_le _ _)
  · exact Nat.zero_le _
/-- the law's lots without the first one are those that are not empty -/
theorem sort_tail {rows : List Str} (nd : rows.Nodup) : ∃ t, sortL (lotsL rows) = [] :: t ∧ t.Perm ((lotsL rows).filter fun l => decide (l ≠ [])) := by
  obtain ⟨r, hr⟩ := lots_head rows
  have ndl := lots_nodup nd
  have p := sortL_perm (lotsL rows)
  have asc := sortL_asc (lotsL rows)
  cases h : sortL (lotsL rows) with
  | nil =>
    rw [h, hr] at p
    exact absurd p.length_eq (by simp)
  | cons a t =>
    rw [h] at p asc
    have hin : [] ∈ a :: t := p.mem_iff.mpr (by rw [hr]; exact List.mem_cons_self)
    have ea : a = [] := by
      rcases List.mem_cons.mp hin with e | e
      · exact e.symm
      · exact leL_anti ((List.pairwise_cons.mp asc).1 [] e) (leL_nil a)
    subst ea
    refine ⟨t, rfl, ?_⟩
    have nd2 : ([] :: t : List (List Str)).Nodup := p.nodup_iff.mpr ndl
    have q := p.filter fun l => decide (l ≠ [])
    rw [List.filter_cons, if_neg (by simp)] at q
    have e2 : t.filter (fun l => decide (l ≠ [])) = t := List.filter_eq_self.mpr fun l hl => decide_eq_true fun e => (List.nodup_cons.mp nd2).1 (e ▸ hl)
    rw [e2] at q
    exact q
end Gy

namespace Gy
open PySem L2 PySem.Spec PyProof.Rows
/-! ### the package: kinds_reached, all_lots, least_lots, rows_but -/
theorem lots_flat (ls : List (List Str)) : D.flatAll (ls.map lotD) = true := flat_map lot_flat ls
theorem pair_flat (ss : List Str) : (pairD ss).flat = true := by
  have q := lot_flat ss
  unfold pairD
  simp only [D.flat, D.flatAll, q, Bool.and_self]
/-- len of a list or a tuple -/
abbrev rLenS (K : PySem.W.Frag) : List V → Hp → VK → Prop := fun xs H Q => ∃ p ys, xs = [.ref p] ∧ (SqL K H p ys ∨ SqT K H p ys) ∧ Q (.int ys.length) H
abbrev sReach : Stmt := top 18
def spReach (K : PySem.W.Frag) : Sp := fun vs H Q _ => ∃ (p : Addr) (B : Bk) (r : Str), vs = [.ref p, .str r] ∧ Rp K H (.ref p) B.d ∧ BOk B ∧ ∀ t H', Same H H' → H t = none → H' t = some (.tup ((B.able [r]).map V.str)) → Q (.ref t) H'
abbrev sAllL : Stmt := top 19
def spAllL (K : PySem.W.Frag) : Sp := fun vs H Q _ => ∃ (R : Addr) (rows : List Str), vs = [.ref R] ∧ H R = some (.tup (rows.map V.str)) ∧ rows.length ≤ 4 ∧
  ∀ (l : Addr) (H' : Hp) (ys : List V) (lss : List (List Str)), Same H H' → H l = none → H' l = some (.lst ys) → RpAll K H' ys (lss.map lotD) → lss.Perm (lotsL rows) → (lss.Pairwise fun x y => x.length ≤ y.length) → Q (.ref l) H'
abbrev sLeastL : Stmt := top 20
def spLeastL (K : PySem.W.Frag) : Sp := fun vs H Q _ => ∃ (a : Addr) (xs : List V) (ls : List (List Str)) (rows : List Str), vs = [.ref a] ∧ H a = some (.lst xs) ∧ RpAll K H xs (ls.map lotD) ∧ rows.Nodup ∧ rows.length ≤ 4 ∧ (∀ l ∈ ls, l.Sublist rows) ∧ ls.Nodup ∧ (ls.Pairwise fun x y => x.length ≤ y.length) ∧ ls.length ≤ 16 ∧
  ∀ (l : Addr) (H' : Hp) (ys : List V), Same H H' → H l = none → H' l = some (.lst ys) → RpAll K H' ys ((sortL (minL ls)).map lotD) → Q (.ref l) H'
abbrev sBut : Stmt := top 21
def spBut (K : PySem.W.Frag) : Sp := fun vs H Q _ => ∃ (p l : Addr) (B : Bk) (lot : List Str), vs = [.ref p, .ref l] ∧ Rp K H (.ref p) B.d ∧ BOk B ∧ SqQ H l (lot.map V.str) ∧ ∀ t H', Same H H' → H t = none → H' t = some (.tup ((rowsBut B.rows lot).map V.str)) → Q (.ref t) H'
section
variable {P : Program} {w : World} {K : PySem.W.Frag} {mg : Str → Option Value} {base : Heap}
theorem scReach : FnScope ["rulebook", "row"] ["rulebook", "row"] (defScope sReach) := ⟨rfl, rfl, rfl, by decide +kernel, rfl, by decide +kernel, by decide +kernel⟩
theorem ok_reach {f : Addr} {fd : FuncData} (F : Fun K "kinds_reached" "kinds_reached" sReach f fd) (CA : Cal P w K mg base 9 "able_kinds" ["rulebook", "struck"] (spAbleK K)) : FnOk P w K mg base CX0 10 f fd ["rulebook", "row"] (spReach K) := by
  refine F.ok scReach (fun vs H Q E h => ?_) (fun cdv A outer s H vs Q E hr h => ?_)
  · obtain ⟨p, B, r, rfl, _⟩ := h
    rfl
  · obtain ⟨p, B, r, rfl, rp, ok, kQ⟩ := h
    refine ⟨_, pss_one (ps_ret (pe_cal CA hr rfl (pa_cons (pv 0) (pa_cons (pe_tup (pa_cons (pv 1) pa_nil)) pa_nil)))), ?_⟩
    refine ⟨_, rfl, _, rfl, by show 1 ≤ sizeLine; decide, fun S nS => ?_⟩
    have s1 : Same H (upd H S (.tup [.str r])) := same_new (Same.refl H) nS
    have h1 : upd H S (.tup [.str r]) S = some (.tup (([r] : List Str).map V.str)) := upd_same
    generalize upd H S (.tup [.str r]) = H1 at s1 h1
    exact ⟨p, S, B, [r], rfl, rp.same s1, ok, .inr h1, fun t H' s nt ht => kQ t H' (s1.trans s) (s1.free nt) ht⟩
theorem scBut : FnScope ["rulebook", "lot", "row"] ["rulebook", "lot"] (defScope sBut) := ⟨rfl, rfl, rfl, by decide +kernel, rfl, by decide +kernel, by decide +kernel⟩
theorem ok_but {f : Addr} {fd : FuncData} (F : Fun K "rows_but" "rows_but" sBut f fd) (zt : mg "tuple" = none) : FnOk P w K mg base CX0 1 f fd ["rulebook", "lot"] (spBut K) := by
  refine F.ok scBut (fun vs H Q E h => ?_) (fun cdv A outer s H vs Q E hr h => ?_)
  · obtain ⟨p, l, B, lot, rfl, _⟩ := h
    rfl
  · obtain ⟨p, l, B, lot, rfl, rp, ok, hl, kQ⟩ := h
    have nd := scBut.nd
    refine ⟨_, pss_one (ps_ret (pe_tupleOf (by rfl) zt (pe_lc (own := [("row", 2)]) (g := gName 2) (tt := tTest (tOp (rIn K true) (tVar 2) (tVar 1))) (te := tVar 2) rfl nd (pi_tup (pe_ix ix_tup (pv 0) pe_int (fun _ _ => rfl)))
      (blkOk_by (own := [("row", 2)]) (N := ["rulebook", "lot", "row"]) (sc := defScope sBut) (by decide +kernel)) (fun _ _ _ _ _ => pg_name (i := 2) nd rfl (Or.inl rfl)) (fun _ _ _ _ _ => pts_one (pt_cmpR op_notIn_seq (pv 2) (pv 1) (by rfl))) (fun _ _ _ _ _ => pv 2)))), ?_⟩
    obtain ⟨pr, pk, ks, hp, hpr, hpk, rks⟩ := Bk.rp_rows rp
    have l15 := ok.rows.len
    refine ⟨_, rfl, p, _, 0, .ref pr, rfl, rfl, SqT.of hp, atI_nat (j := 0) rfl, pr, rfl, ⟨_, SqT.of hpr⟩, fun Dx nD => ?_⟩
    refine lc_filt (K := K) (walk_tup (xs := B.rows.map V.str)) B.rows (fun r => !decide (r ∈ lot)) D.str (by rw [List.length_map]) (fun _ => rfl) nD (by rw [List.length_map]; omega) (fun H' s => SqT.of (s _ _ hpr)) ?_ ?_
    · rintro i r x H4 H5 R Q' hi hr' s4 ⟨rfl, hx⟩ kR kQ'
      have ex : x = .str r := by
        rw [List.getElem?_map, hr'] at hx
        exact (Option.some.inj hx).symm
      subst ex
      refine ⟨rfl, _, rfl, _, rfl, in_read (neg := true) (hl.same s4) ⟨_, rfl, ?_⟩⟩
      show if (!decide (r ∈ lot)) = true then _ else _
      refine ite2 (fun e => ?_) fun e => ?_
      · exact ⟨_, rfl, kQ' _ _ (Same.refl _) e (.str _)⟩
      · exact kR _ (Same.refl _) (by simpa using e)
    · intro H4 ys s4 hD r
      have e := rp_strs r
      subst e
      refine .inl ⟨Dx, _, rfl, SqL.of hD, fun t nt => ?_⟩
      have s5 : Same H4 (upd H4 t (.tup ((rowsBut B.rows lot).map V.str))) := same_new (Same.refl H4) nt
      exact kQ t _ (s4.trans s5) (s4.free nt) upd_same
theorem scAllL : FnScope ["things", "found", "thing", "lot", "many"] ["things"] (defScope sAllL) := ⟨rfl, rfl, rfl, by decide +kernel, rfl, by decide +kernel, by decide +kernel⟩
theorem ok_allL {f : Addr} {fd : FuncData} (F : Fun K "all_lots" "all_lots" sAllL f fd) (zs : mg "sorted" = none) (zl : mg "len" = none) : FnOk P w K mg base CX0 1 f fd ["things"] (spAllL K) := by
  refine F.ok scAllL (fun vs H Q E h => ?_) (fun cdv A outer s H vs Q E hr h => ?_)
  · obtain ⟨R, rows, rfl, _⟩ := h
    rfl
  · obtain ⟨R, rows, rfl, hR, l3, kQ⟩ := h
    have nd := scAllL.nd
    have hu := hr.units
    have hz := sizeLine_eq
    refine ⟨_, pss_cons (ps_set (i := 1) nd rfl (Or.inl rfl) (pe_lst (pa_cons (pe_tup pa_nil) pa_nil)))
      (pss_cons (ps_for PassesOwn.never rfl (pi_tup (pv 0)) (pg_name (i := 2) nd rfl (Or.inr rfl))
        (pss_one (ps_set (i := 1) nd rfl (Or.inl rfl) (pe_op op_cat (pv 1) (pe_lc (own := [("lot", 3)]) (g := gName 3) (tt := tYes) (te := tTup (StX.tStar K (tVar 3) (tCons (tVar 2) tNil))) rfl nd (pi_list (pv 1))
          (blkOk_by (own := [("lot", 3)]) (N := ["things", "found", "thing", "lot", "many"]) (sc := defScope sAllL) (by decide +kernel)) (fun _ _ _ _ _ => pg_name (i := 3) nd rfl (Or.inl rfl)) (fun _ _ _ _ _ => pts_nil) (fun _ _ _ _ _ => pe_tup (StX.pa_star (pv 3) (pa_cons (pv 2) pa_nil))))))))
      (pss_one (ps_ret (pe_lc (own := [("many", 4), ("lot", 3)]) (g := gTup K 2 (gCons (gName 4) (gCons (gName 3) gNil))) (tt := tYes) (te := tVar 3) rfl nd (pi_list (pe_callB (cr_sortedPr hu) (by rfl) zs (by decide +kernel) (pa_cons (pe_lc (own := [("lot", 3)]) (g := gName 3) (tt := tYes) (te := tTup (tCons (tCB (rLenS K) (tCons (tVar 3) tNil)) (tCons (tVar 3) tNil))) rfl nd (pi_list (pv 1))
          (blkOk_by (own := [("lot", 3)]) (N := ["things", "found", "thing", "lot", "many"]) (sc := defScope sAllL) (by decide +kernel)) (fun _ _ _ _ _ => pg_name (i := 3) nd rfl (Or.inl rfl)) (fun _ _ _ _ _ => pts_nil) (fun _ _ _ _ _ => pe_tup (pa_cons (pe_callB call_len_seq (by rfl) zl PySem.boot_len (pa_cons (pv 3) pa_nil)) (pa_cons (pv 3) pa_nil)))) pa_nil)))
          (blkOk_by (own := [("many", 4), ("lot", 3)]) (N := ["things", "found", "thing", "lot", "many"]) (sc := defScope sAllL) (by decide +kernel)) (fun _ _ _ _ _ => pg_tup rfl (pgs_cons (pg_name (i := 4) nd rfl (Or.inl rfl)) (pgs_cons (pg_name (i := 3) nd rfl (Or.inl rfl)) pgs_nil))) (fun _ _ _ _ _ => pts_nil) (fun _ _ _ _ _ => pv 3))))), ?_⟩
    refine ⟨Nat.zero_le _, fun t0 nt0 => ⟨by show 1 ≤ sizeLine; decide, fun L nL => ?_⟩⟩
    have s1 : Same H (upd H t0 (.tup [])) := same_new (Same.refl H) nt0
    have h1 : upd H t0 (.tup []) t0 = some (.tup []) := upd_same
    generalize upd H t0 (.tup []) = H1 at s1 h1 nL
    have s2 : Same H1 (upd H1 L (.lst [.ref t0])) := same_new (Same.refl H1) nL
    have h2 : upd H1 L (.lst [.ref t0]) L = some (.lst [.ref t0]) := upd_same
    generalize upd H1 L (.lst [.ref t0]) = H2 at s2 h2
    have s12 := s1.trans s2
    try dsimp only
    show tSeq _ _ _ [some (.ref R), some (.ref L), none, none, none] H2
    refine ⟨_, rfl, R, rfl, ⟨_, SqT.of (s12 _ _ hR)⟩, for_tup (xs := rows.map V.str) (fun i σ' H' => (∃ (Lf : Addr) (x2 : Option V), σ' = [some (.ref R), some (.ref Lf), x2, none, none] ∧ Same H H' ∧ ∃ xs, H' Lf = some (.lst xs) ∧ RpAll K H' xs ((lotsL (rows.take i)).map lotD)))
      ⟨L, none, rfl, s12, _, h2, .cons (.tup (s2 _ _ h1) .nil) .nil⟩ (fun i σ' H' _ z => by
        obtain ⟨_, _, _, s, _⟩ := z
        exact SqT.of (s _ _ hR)) ?_ ?_⟩
    · rintro i x σ' H3 hx ⟨Lf, x2, rfl, s3, xs, hLf, rx⟩
      obtain ⟨th, hth, rfl⟩ : ∃ th, rows[i]? = some th ∧ x = V.str th := by
        rw [List.getElem?_map] at hx
        cases z : rows[i]? with
        | none => rw [z] at hx; cases hx
        | some th => rw [z] at hx; exact ⟨th, rfl, (Option.some.inj hx).symm⟩
      have il := (List.getElem?_eq_some_iff.mp hth).1
      have lxs : xs.length = 2 ^ i := by rw [rx.len, List.length_map, lots_len, List.length_take, Nat.min_eq_left (by omega)]
      have l4 : 2 ^ i ≤ 8 := by
        have : i ≤ 3 := by omega
        exact Nat.pow_le_pow_right (by decide : 0 < 2) this
      refine ⟨_, rfl, _, rfl, Lf, rfl, ⟨_, SqL.of hLf⟩, fun Dx nD => ?_⟩
      refine lc_map (K := K) (walk_list (xs := xs)) (((lotsL (rows.take i)).map fun a => a ++ [th]).map lotD) (by rw [List.length_map, List.length_map, rx.len, List.length_map]) (lots_flat _) nD (by omega) (fun H' s => SqL.of (s _ _ hLf)) ?_ ?_ gName_mono
      · rintro m d x Ha Hb Q' hm hd sa ⟨rfl, hx⟩ kk
        obtain ⟨ss, hss, rss⟩ := at_of rx hx
        have ed : d = lotD (ss ++ [th]) := by
          rw [List.map_map, List.getElem?_map, hss] at hd
          exact (Option.some.inj hd).symm
        subst ed
        obtain ⟨t, rfl, ht⟩ := lot_rp (rss.same sa)
        have sl : ss.length ≤ 4 := by
          have q := (mem_lots.mp (List.mem_of_getElem? hss)).length_le
          rw [List.length_take] at q
          omega
        refine ⟨rfl, _, rfl, t, _, rfl, .inl (SqT.of ht), _, rfl, by rw [List.length_append, List.length_map]; show _ + 1 ≤ _; omega, fun q nq => ?_⟩
        refine kk _ _ (same_new (Same.refl _) nq) (.tup upd_same ?_)
        have e : ss.map V.str ++ [.str th] = (ss ++ [th]).map V.str := by rw [List.map_append]; rfl
        rw [e]
        exact rp_of_strs _
      · intro H4 zs s4 hD r
        have lz : zs.length = 2 ^ i := by rw [r.len, List.length_map, List.length_map, ← lxs, rx.len, List.length_map]
        refine ⟨Lf, Dx, xs, zs, rfl, rfl, s4 _ _ hLf, hD, by omega, fun u nu => ?_⟩
        have s5 : Same H4 (upd H4 u (.lst (xs ++ zs))) := same_new (Same.refl H4) nu
        refine ⟨u, _, rfl, (s3.trans s4).trans s5, xs ++ zs, upd_same, ?_⟩
        rw [lotsL_take hth]
        unfold stepL
        rw [List.map_append]
        exact (RpAll.same (s4.trans s5) rx).append (RpAll.same s5 r)
    · rintro σ' H3 ⟨Lf, x2, rfl, s3, xs, hLf, rx⟩
      rw [List.length_map, List.take_length] at rx
      have lxs : xs.length = 2 ^ rows.length := by rw [rx.len, List.length_map, lots_len]
      have l16 : 2 ^ rows.length ≤ 16 := Nat.pow_le_pow_right (by decide : 0 < 2) l3
      try dsimp only
      show tRet _ _ [some (.ref R), some (.ref Lf), x2, none, none] H3
      refine ⟨_, rfl, Lf, rfl, ⟨_, SqL.of hLf⟩, fun Dx nD => ?_⟩
      refine lc_map (K := K) (walk_list (xs := xs)) ((lotsL rows).map pairD) (by rw [List.length_map, rx.len, List.length_map]) (flat_map pair_flat _) nD (by omega) (fun H' s => SqL.of (s _ _ hLf)) ?_ ?_ gName_mono
      · rintro m d x Ha Hb Q' hm hd sa ⟨rfl, hx⟩ kk
        obtain ⟨ss, hss, rss⟩ := at_of rx hx
        have ed : d = pairD ss := by
          rw [List.getElem?_map, hss] at hd
          exact (Option.some.inj hd).symm
        subst ed
        have rs := rss.same sa
        obtain ⟨t, rfl, ht⟩ := lot_rp rs
        refine ⟨rfl, _, rfl, t, ss.map V.str, rfl, .inr (SqT.of ht), _, rfl, by show 2 ≤ sizeLine; decide, fun q nq => ?_⟩
        have s5 : Same Hb (upd Hb q (.tup [.int ((ss.map V.str).length : Nat), .ref t])) := same_new (Same.refl Hb) nq
        refine kk _ _ s5 (.tup upd_same (.cons ?_ (.cons (rs.same s5) .nil)))
        rw [List.length_map]
        exact .int _
      · intro H4 zs s4 hD r
        refine ⟨Dx, zs, lotsL rows, rfl, SqL.of hD, r, fun ys p lss' ry pm pw np => ?_⟩
        have s5 : Same H4 (upd H4 p (.lst ys)) := same_new (Same.refl H4) np
        have h5 : upd H4 p (.lst ys) p = some (.lst ys) := upd_same
        generalize upd H4 p (.lst ys) = H5 at s5 h5
        have ry5 := RpAll.same s5 ry
        have ly : ys.length = 2 ^ rows.length := by rw [ry.len, List.length_map, pm.length_eq, lots_len]
        refine ⟨p, rfl, ⟨_, SqL.of h5⟩, fun Dy nDy => ?_⟩
        refine lc_map (K := K) (walk_list (xs := ys)) (lss'.map lotD) (by rw [List.length_map, ry.len, List.length_map]) (lots_flat _) nDy (by omega) (fun H' s => SqL.of (s _ _ h5)) ?_ ?_ g2_mono
        · rintro m d x Ha Hb Q' hm hd sa ⟨rfl, hx⟩ kk
          obtain ⟨ss, hss, rss⟩ := at_of ry5 hx
          have ed : d = lotD ss := by
            rw [List.getElem?_map, hss] at hd
            exact (Option.some.inj hd).symm
          subst ed
          obtain ⟨t, u, rfl, ht, ru⟩ := pair_rp (rss.same sa)
          exact ⟨t, _, rfl, SqT.of ht, rfl, _, _, rfl, _, _, rfl, rfl, rfl, _, rfl, kk _ _ (Same.refl _) ru⟩
        · intro H6 us s6 hDy ru
          have s3_6 := (s3.trans s4).trans (s5.trans s6)
          exact kQ Dy H6 us lss' s3_6 (((s3.trans s4).trans s5).free nDy) hDy ru pm pw
end
end Gy

namespace Gy
open PySem L2 PySem.Spec PyProof.Rows
/-! ### least_lots -/
section
variable {P : Program} {w : World} {K : PySem.W.Frag} {mg : Str → Option Value} {base : Heap}
theorem scLeastL : FnScope ["lots", "found", "lot", "one", "thing"] ["lots"] (defScope sLeastL) := ⟨rfl, rfl, rfl, by decide +kernel, rfl, by decide +kernel, by decide +kernel⟩
theorem ok_leastL {f : Addr} {fd : FuncData} (F : Fun K "least_lots" "least_lots" sLeastL f fd) (zs : mg "sorted" = none) (zy : mg "any" = none) (za : mg "all" = none) : FnOk P w K mg base CX0 1 f fd ["lots"] (spLeastL K) := by
  refine F.ok scLeastL (fun vs H Q E h => ?_) (fun cdv A outer s H vs Q E hr h => ?_)
  · obtain ⟨a, xs, ls, rows, rfl, _⟩ := h
    rfl
  · obtain ⟨a, xs, ls, rows, rfl, ha, rx, ndr, l4, sl, ndl, pw, l16, kQ⟩ := h
    have nd := scLeastL.nd
    have hu := hr.units
    have hz := sizeLine_eq
    refine ⟨_, pss_cons (ps_set (i := 1) nd rfl (Or.inl rfl) (pe_lst pa_nil))
      (pss_cons (ps_for PassesOwn.never rfl (pi_list (pv 0)) (pg_name (i := 2) nd rfl (Or.inr rfl))
        (pss_one (ps_if (pt_not (pt_val (pe_callB (cr_any rfl) (by rfl) zy PyProof.Rows.boot_any (pa_cons
            (pe_lc (own := [("one", 3)]) (g := gName 3) (tt := tYes) (te := tCB (rAll K) (tCons (tLc (iTup K (tVar 3)) (gName 4) tYes (tOp (rIn K false) (tVar 4) (tVar 2)) [4]) tNil)) rfl nd (pi_list (pv 1))
              (blkOk_by (own := [("one", 3)]) (N := ["lots", "found", "lot", "one", "thing"]) (sc := defScope sLeastL) (by decide +kernel)) (fun _ _ _ _ _ => pg_name (i := 3) nd rfl (Or.inl rfl)) (fun _ _ _ _ _ => pts_nil)
              (fun _ _ _ _ _ => pe_callB (cr_all rfl) (by rfl) za (by decide +kernel) (pa_cons (pe_lc (own := [("thing", 4)]) (g := gName 4) (tt := tYes) (te := tOp (rIn K false) (tVar 4) (tVar 2)) rfl nd (pi_tup (pv 3))
                (blkOk_by (by rfl)) (fun _ _ _ _ _ => pg_name (i := 4) nd rfl (Or.inl rfl)) (fun _ _ _ _ _ => pts_nil) (fun _ _ _ _ _ => pe_cmpR op_in_seq (pv 4) (pv 2) (by rfl))) pa_nil))) pa_nil))))
          (pss_one (ps_expr (by exact (pe_bm PySem.F.plainAttrs_list PySem.F.slot_list_append PySem.F.type_list_append mt_append (pv 1) (pa_cons (pv 2) pa_nil))))) pss_nil)))
      (pss_one (ps_ret (pe_callB (cr_sortedLots hu) (by rfl) zs (by decide +kernel) (pa_cons (pv 1) pa_nil))))), ?_⟩
    have lxs : xs.length = ls.length := by rw [rx.len, List.length_map]
    refine ⟨Nat.zero_le _, fun L nL => ?_⟩
    have g0 : Grow K H (upd H L (.lst [])) L (([] : List (List Str)).map lotD) := Grow.start nL
    try dsimp only
    show tSeq _ _ _ [some (.ref a), some (.ref L), none, none, none] (upd H L (.lst []))
    refine ⟨_, rfl, a, rfl, ⟨_, SqL.of (g0.same _ _ ha)⟩, for_list (xs := xs) (fun j σ' H' => (∃ x2, σ' = [some (.ref a), some (.ref L), x2, none, none]) ∧ ∃ found, Grow K H H' L (found.map lotD) ∧ Kept ls j found ∧ found.length ≤ j)
      ⟨⟨_, rfl⟩, [], g0, Kept.start ls, Nat.le_refl _⟩ (fun j σ' H' _ z => by
        obtain ⟨_, found, g, _⟩ := z
        exact SqL.of (g.same _ _ ha)) ?_ ?_⟩
    · rintro j x σ' H3 hx ⟨⟨x2, rfl⟩, found, g3, kp, lf⟩
      obtain ⟨l, hl, rl⟩ := at_of rx hx
      have jl : j < ls.length := (List.getElem?_eq_some_iff.mp hl).1
      obtain ⟨lt, rfl, hlt⟩ := lot_rp (rl.same g3.same)
      obtain ⟨fs, hL, rf⟩ := g3.ex
      have lfs : fs.length = found.length := by rw [rf.len, List.length_map]
      have nx := kp.next ndr sl pw hl
      have lrow : ∀ o ∈ found, o.length ≤ 4 := fun o ho => Nat.le_trans (sl o (kp.sub o ho)).length_le l4
      refine ⟨_, rfl, L, rfl, ⟨_, SqL.of hL⟩, fun Dx nD => ?_⟩
      refine lc_map (K := K) (walk_list (xs := fs)) ((found.map fun o => subB o l).map D.bl) (by rw [List.length_map, List.length_map, lfs]) (bl_flat _) nD (by omega) (fun H' s => SqL.of (s _ _ hL)) ?_ ?_ gName_mono
      · rintro m d x Ha Hb Q' hm hd sa ⟨rfl, hx⟩ kk
        obtain ⟨o, ho, ro⟩ := at_of rf hx
        have ed : d = .bl (subB o l) := by
          rw [List.map_map, List.getElem?_map, ho] at hd
          exact (Option.some.inj hd).symm
        subst ed
        obtain ⟨ot, rfl, hot⟩ := lot_rp (ro.same sa)
        have lo := lrow o (List.mem_of_getElem? ho)
        refine ⟨rfl, _, rfl, ot, rfl, ⟨_, SqT.of hot⟩, fun Dy nDy => ?_⟩
        refine lc_map (K := K) (walk_tup (xs := o.map V.str)) ((o.map fun t => decide (t ∈ l)).map D.bl) (by rw [List.length_map, List.length_map, List.length_map]) (bl_flat _) nDy (by rw [List.length_map]; omega) (fun H' s => SqT.of (s _ _ hot)) ?_ ?_ gName_mono
        · rintro m' d x Hc Hd Q'' hm' hd' sc ⟨rfl, hx'⟩ kk'
          obtain ⟨t, ht, rfl⟩ : ∃ t, o[m']? = some t ∧ x = V.str t := by
            rw [List.getElem?_map] at hx'
            cases z : o[m']? with
            | none => rw [z] at hx'; cases hx'
            | some t => rw [z] at hx'; exact ⟨t, rfl, (Option.some.inj hx').symm⟩
          have ed : d = .bl (decide (t ∈ l)) := by
            rw [List.map_map, List.getElem?_map, ht] at hd'
            exact (Option.some.inj hd').symm
          subst ed
          exact ⟨rfl, _, rfl, _, rfl, in_read (neg := false) (.inr (sc _ _ (sa _ _ hlt))) (kk' _ _ (Same.refl _) (.bl _))⟩
        · intro He zs se hDy r
          have e := rp_bls r
          subst e
          refine ⟨Dy, o.map fun t => decide (t ∈ l), rfl, SqL.of hDy, ?_⟩
          have e2 : (o.map fun t => decide (t ∈ l)).all id = subB o l := by rw [List.all_map]; rfl
          rw [e2]
          exact kk _ _ se (.bl _)
      · intro H4 zs s4 hD r
        have e := rp_bls r
        subst e
        have g4 := g3.later (lots_flat _) s4
        refine ⟨Dx, found.map fun o => subB o l, rfl, SqL.of hD, _, rfl, ?_⟩
        have e2 : (found.map fun o => subB o l).any id = found.any fun o => subB o l := by rw [List.any_map]; rfl
        rw [e2]
        refine ite2 (fun e => ?_) fun e => ?_
        · rw [if_pos e] at nx
          obtain ⟨ys, hL4, ly, g5⟩ := g4.more nL (lots_flat _) (lots_flat [l]) (.cons (rl.same g4.same) .nil)
          have ly' : ys.length ≤ j := by rw [ly, List.length_map]; exact lf
          refine ⟨_, rfl, .inl ⟨rfl, _, SqL.of hL4⟩, _, rfl, L, ys, .ref lt, rfl, rfl, hL4, by omega, ⟨_, rfl⟩, found ++ [l], ?_, nx, by rw [List.length_append, List.length_singleton]; omega⟩
          rw [List.map_append]
          exact g5
        · rw [if_neg e, List.append_nil] at nx
          exact ⟨⟨_, rfl⟩, found, g4, nx, by omega⟩
    · rintro σ' H3 ⟨⟨x2, rfl⟩, found, g3, kp, lf⟩
      rw [lxs] at kp
      have pm := kp.fin (rows := rows) ndl
      obtain ⟨fs, hL, rf⟩ := g3.ex
      refine ⟨_, rfl, L, fs, found, rfl, SqL.of hL, rf, min_cond pm kp.nd, fun ys p ry np => ?_⟩
      have s4 : Same H3 (upd H3 p (.lst ys)) := same_new (Same.refl H3) np
      rw [sortL_perm_eq pm] at ry
      exact kQ p _ ys (g3.same.trans s4) (g3.same.free np) upd_same (RpAll.same s4 ry)
end
end Gy

namespace Gy
open PySem L2 PySem.Spec PyProof.Rows
/-! ### least_supports, least_chokes -/
theorem filter_take {α : Type} (f : α → Bool) {l : List α} {j : Nat} {x : α} (h : l[j]? = some x) : (l.take (j + 1)).filter f = (l.take j).filter f ++ (if f x = true then [x] else []) := by
  rw [List.take_succ, h, List.filter_append]
  congr 1
  show List.filter f [x] = _
  rw [List.filter_cons, List.filter_nil]
theorem lot_dp {K : PySem.W.Frag} {H : Hp} {t : Addr} {ss : List Str} (h : H t = some (.tup (ss.map V.str))) (hm : ∀ x ∈ ss, x ∈ menu) : Dp K H (.ref t) (.tuple (D.pyAll (ss.map D.str))) ∧ SeqAt.shaped (.tuple (D.pyAll (ss.map D.str))) = true ∧ (!PyData.eqv (.tuple (D.pyAll (ss.map D.str))) (.tuple [])) = decide (ss ≠ []) := by
  obtain ⟨f1, f2, _⟩ := (fine_strs hm).tup.shaped (by decide)
  refine ⟨(Rp.tup h (rp_of_strs ss)).dp f1, f2, ?_⟩
  cases ss with
  | nil => rfl
  | cons i is =>
    simp only [List.map_cons, D.pyAll, PyData.eqv, PyData.eqvAll]
    rfl
abbrev sSupP : Stmt := top 22
def spSupP (K : PySem.W.Frag) : Sp := fun vs H Q _ => ∃ (p : Addr) (B : Bk) (n : Str), vs = [.ref p, .str n] ∧ Rp K H (.ref p) B.d ∧ BOk B ∧ B.rows.length ≤ 4 ∧ ∀ (l : Addr) (H' : Hp) (ys : List V), Same H H' → H l = none → H' l = some (.lst ys) → RpAll K H' ys ((B.sup n).map lotD) → Q (.ref l) H'
abbrev sChkP : Stmt := top 23
def spChkP (K : PySem.W.Frag) : Sp := fun vs H Q _ => ∃ (p : Addr) (B : Bk) (n : Str), vs = [.ref p, .str n] ∧ Rp K H (.ref p) B.d ∧ BOk B ∧ B.rows.length ≤ 4 ∧ ∀ (l : Addr) (H' : Hp) (ys : List V), Same H H' → H l = none → H' l = some (.lst ys) → RpAll K H' ys ((B.chk n).map lotD) → Q (.ref l) H'
section
variable {P : Program} {w : World} {K : PySem.W.Frag} {mg : Str → Option Value} {base : Heap}
theorem scSupP : FnScope ["rulebook", "name", "good", "lot"] ["rulebook", "name"] (defScope sSupP) := ⟨rfl, rfl, rfl, by decide +kernel, rfl, by decide +kernel, by decide +kernel⟩
theorem ok_supP {f : Addr} {fd : FuncData} (F : Fun K "least_supports" "least_supports" sSupP f fd) (CAl : Cal P w K mg base 1 "all_lots" ["things"] (spAllL K)) (CC : Cal P w K mg base 8 "clean_kinds" ["rulebook", "struck"] (spCleanK K)) (CBu : Cal P w K mg base 1 "rows_but" ["rulebook", "lot"] (spBut K)) (CLe : Cal P w K mg base 1 "least_lots" ["lots"] (spLeastL K)) : FnOk P w K mg base CX0 9 f fd ["rulebook", "name"] (spSupP K) := by
  refine F.ok scSupP (fun vs H Q E h => ?_) (fun cdv A outer s H vs Q E hr h => ?_)
  · obtain ⟨p, B, n, rfl, _⟩ := h
    rfl
  · obtain ⟨p, B, n, rfl, rp, ok, r4, kQ⟩ := h
    have nd := scSupP.nd
    have hz := sizeLine_eq
    have hr1 := hr.mono (by decide : 1 ≤ 8)
    refine ⟨_, pss_cons (ps_set (i := 2) nd rfl (Or.inl rfl) (pe_lst pa_nil))
      (pss_cons (ps_for PassesOwn.never rfl (pi_list (pe_cal CAl hr1 rfl (pa_cons (pe_ix ix_tup (pv 0) pe_int (fun _ _ => rfl)) pa_nil))) (pg_name (i := 3) nd rfl (Or.inl rfl))
        (pss_one (ps_if (pt_cmpR op_in_seq (pv 1) (pe_cal CC hr rfl (pa_cons (pv 0) (pa_cons (pe_cal CBu hr1 rfl (pa_cons (pv 0) (pa_cons (pv 3) pa_nil))) pa_nil))) (by rfl))
          (pss_one (ps_expr (by exact (pe_bm PySem.F.plainAttrs_list PySem.F.slot_list_append PySem.F.type_list_append mt_append (pv 2) (pa_cons (pv 3) pa_nil))))) pss_nil)))
      (pss_one (ps_ret (pe_cal CLe hr1 rfl (pa_cons (pv 2) pa_nil))))), ?_⟩
    refine ⟨Nat.zero_le _, fun L nL => ?_⟩
    have g0 : Grow K H (upd H L (.lst [])) L (([] : List (List Str)).map lotD) := Grow.start nL
    have hL0 : upd H L (.lst []) L = some (.lst []) := upd_same
    generalize upd H L (.lst []) = H1 at g0 hL0
    obtain ⟨pr, pk, ks, hp, hpr, hpk, rks⟩ := Bk.rp_rows (rp.same g0.same)
    try dsimp only
    show tSeq _ _ _ [some (.ref p), some (.str n), some (.ref L), none] H1
    refine ⟨_, rfl, p, _, 0, .ref pr, rfl, rfl, SqT.of hp, atI_nat (j := 0) rfl, pr, B.rows, rfl, hpr, r4, fun A' H2 ys lss s2 nA hA ry pm pw => ?_⟩
    have AL : A' ≠ L := fun z => by rw [z, hL0] at nA; cases nA
    have ndl : lss.Nodup := pm.nodup_iff.mpr (lots_nodup ok.rows.nd)
    have sub : ∀ l ∈ lss, l.Sublist B.rows := fun l hl => mem_lots.mp (pm.mem_iff.mp hl)
    have ll : lss.length ≤ 16 := by
      rw [pm.length_eq, lots_len]
      exact Nat.pow_le_pow_right (by decide : 0 < 2) r4
    have lys : ys.length = lss.length := by rw [ry.len, List.length_map]
    have g2 := g0.later (lots_flat _) s2
    have hL2 := s2 _ _ hL0
    refine ⟨A', rfl, ⟨_, SqL.of hA⟩, for_list (xs := ys) (fun j σ' H' => (∃ x3, σ' = [some (.ref p), some (.str n), some (.ref L), x3]) ∧ Grow K H H' L (((lss.take j).filter (B.good n)).map lotD) ∧ Ext L H2 H')
      ⟨⟨_, rfl⟩, g2, Ext.refl' L H2⟩ (fun j σ' H' _ z => SqL.of (z.2.2 A' _ AL hA)) ?_ ?_⟩
    · rintro j x σ' H3 hx ⟨⟨x3, rfl⟩, g3, e3⟩
      obtain ⟨l, hl, rl⟩ := at_of ry hx
      have jl := (List.getElem?_eq_some_iff.mp hl).1
      have rl3 := rl.tups (Tups.ext hL2 e3) (lot_flat l)
      obtain ⟨lt, rfl, hlt⟩ := lot_rp rl3
      refine ⟨_, rfl, _, rfl, _, rfl, _, rfl, p, lt, B, l, rfl, rp.same g3.same, ok, .inr hlt, fun t H4 s4 nt ht => ⟨p, t, B, rowsBut B.rows l, rfl, rp.same (g3.same.trans s4), ok, .inr ht, fun c H5 s5 nc hc => ?_⟩⟩
      have s45 := s4.trans s5
      have g5 := g3.later (lots_flat _) s45
      have e5 : Ext L H2 H5 := e3.trans' fun a o _ h => s45 a o h
      have ef := filter_take (B.good n) hl
      refine in_read (neg := false) (.inr hc) ⟨_, rfl, ?_⟩
      show if decide (n ∈ B.clean (rowsBut B.rows l)) = true then _ else _
      refine ite2 (fun e => ?_) fun e => ?_
      · have e' : B.good n l = true := e
        rw [if_pos e'] at ef
        obtain ⟨zs, hL5, lz, g6⟩ := g5.more nL (lots_flat _) (lots_flat [l]) (.cons (rl3.same s45) .nil)
        have lz' : zs.length ≤ 16 := by
          rw [lz, List.length_map]
          exact Nat.le_trans (List.length_filter_le _ _) (Nat.le_trans (List.length_take_le' _ _) ll)
        refine ⟨_, rfl, .inl ⟨rfl, _, SqL.of hL5⟩, _, rfl, L, zs, .ref lt, rfl, rfl, hL5, by omega, ⟨_, rfl⟩, ?_, e5.trans' (Ext.put (Ext.refl' L H5))⟩
        rw [ef, List.map_append]
        exact g6
      · have e' : ¬ B.good n l = true := e
        rw [if_neg e', List.append_nil] at ef
        refine ⟨⟨_, rfl⟩, ?_, e5⟩
        rw [ef]
        exact g5
    · rintro σ' H3 ⟨⟨x3, rfl⟩, g3, e3⟩
      rw [lys, List.take_length] at g3
      obtain ⟨zs, hL3, rz⟩ := g3.ex
      refine ⟨_, rfl, L, zs, lss.filter (B.good n), B.rows, rfl, hL3, rz, ok.rows.nd, r4, fun l hl => sub l (List.mem_filter.mp hl).1, ndl.sublist List.filter_sublist, pw.sublist List.filter_sublist, Nat.le_trans (List.length_filter_le _ _) ll, fun q H4 us s4 nq hq ru => ?_⟩
      rw [sortL_perm_eq (minL_perm (pm.filter (B.good n)))] at ru
      exact kQ q H4 us (g3.same.trans s4) (g3.same.free nq) hq ru
theorem scChkP : FnScope ["rulebook", "name", "lot"] ["rulebook", "name"] (defScope sChkP) := ⟨rfl, rfl, rfl, by decide +kernel, rfl, by decide +kernel, by decide +kernel⟩
theorem ok_chkP {f : Addr} {fd : FuncData} (F : Fun K "least_chokes" "least_chokes" sChkP f fd) (CAl : Cal P w K mg base 1 "all_lots" ["things"] (spAllL K)) (CC : Cal P w K mg base 8 "clean_kinds" ["rulebook", "struck"] (spCleanK K)) (CBe : Cal P w K mg base 8 "bearing_kinds" ["rulebook"] (spBearK K)) (CLe : Cal P w K mg base 1 "least_lots" ["lots"] (spLeastL K)) : FnOk P w K mg base CX0 9 f fd ["rulebook", "name"] (spChkP K) := by
  refine F.ok scChkP (fun vs H Q E h => ?_) (fun cdv A outer s H vs Q E hr h => ?_)
  · obtain ⟨p, B, n, rfl, _⟩ := h
    rfl
  · obtain ⟨p, B, n, rfl, rp, ok, r4, kQ⟩ := h
    have nd := scChkP.nd
    have hu := hr.units
    have hr1 := hr.mono (by decide : 1 ≤ 8)
    refine ⟨_, pss_cons (ps_if (pt_cmpR op_notIn_seq (pv 1) (pe_cal CBe hr rfl (pa_cons (pv 0) pa_nil)) (by rfl)) (pss_one (ps_ret (pe_lst pa_nil))) pss_nil)
      (pss_one (ps_ret (pe_cal CLe hr1 rfl (pa_cons (pe_lc (own := [("lot", 2)]) (g := gName 2) (tt := tAnd (tTest (tOp (rNeD K) (tVar 2) (tTup tNil))) (tTest (tOp (rIn K true) (tVar 1) (tCall (spCleanK K) [] E0 (tCons (tVar 0) (tCons (tVar 2) tNil)))))) (te := tVar 2) rfl nd (pi_list (pe_cal CAl hr1 rfl (pa_cons (pe_ix ix_tup (pv 0) pe_int (fun _ _ => rfl)) pa_nil)))
        (blkOk_by (own := [("lot", 2)]) (N := ["rulebook", "name", "lot"]) (sc := defScope sChkP) (by decide +kernel)) (fun _ _ _ _ _ => pg_name (i := 2) nd rfl (Or.inl rfl)) (fun _ _ _ _ _ => pts_one (PW.pt (pw_and (pt_cmpR (op_neD hu) (pv 2) (pe_tup pa_nil) (nomark _)) (pw_and1 (pt_cmpR op_notIn_seq (pv 1) (pe_cal CC hr rfl (pa_cons (pv 0) (pa_cons (pv 2) pa_nil))) (by rfl)))))) (fun _ _ _ _ _ => pv 2)) pa_nil)))), ?_⟩
    refine ⟨_, rfl, _, rfl, p, B, rfl, rp, ok, fun t H1 s1 nt ht => ?_⟩
    refine in_read (neg := true) (.inr ht) ⟨_, rfl, ?_⟩
    show if (!decide (n ∈ B.bear)) = true then _ else _
    refine ite2 (fun e => ?_) fun e => ?_
    · have hn : n ∉ B.bear := by simpa using e
      refine ⟨Nat.zero_le _, fun l nl => ?_⟩
      have s2 : Same H1 (upd H1 l (.lst [])) := same_new (Same.refl H1) nl
      refine kQ l _ [] (s1.trans s2) (s1.free nl) upd_same ?_
      unfold Bk.chk
      rw [if_neg hn]
      exact .nil
    · have hn : n ∈ B.bear := by simpa using e
      refine next_open ?_
      have rp1 := rp.same s1
      obtain ⟨pr, pk, ks, hp, hpr, hpk, rks⟩ := Bk.rp_rows rp1
      try dsimp only
      show tRet _ _ [some (.ref p), some (.str n), none] H1
      refine ⟨_, rfl, p, _, 0, .ref pr, rfl, rfl, SqT.of hp, atI_nat (j := 0) rfl, pr, B.rows, rfl, hpr, r4, fun A' H2 ys lss s2 nA hA ry pm pw => ?_⟩
      have ndl : lss.Nodup := pm.nodup_iff.mpr (lots_nodup ok.rows.nd)
      have sub : ∀ l ∈ lss, l.Sublist B.rows := fun l hl => mem_lots.mp (pm.mem_iff.mp hl)
      have ll : lss.length ≤ 16 := by
        rw [pm.length_eq, lots_len]
        exact Nat.pow_le_pow_right (by decide : 0 < 2) r4
      have lys : ys.length = lss.length := by rw [ry.len, List.length_map]
      refine ⟨A', rfl, ⟨_, SqL.of hA⟩, fun Dx nD => ?_⟩
      refine lc_filt (K := K) (walk_list (xs := ys)) lss (B.bad n) lotD lys.symm lot_flat nD (by omega) (fun H' s => SqL.of (s _ _ hA)) ?_ ?_
      · rintro j l x H3 H4 R Q' hj hl s3 ⟨rfl, hx⟩ kR kQ'
        obtain ⟨l', hl', rx⟩ := at_of ry hx
        have en : l = l' := by rw [hl] at hl'; exact Option.some.inj hl'
        subst en
        have rx3 := rx.same s3
        obtain ⟨lt, rfl, hlt⟩ := lot_rp rx3
        have lmem : ∀ x ∈ l, x ∈ menu := fun x hx => ok.rows.mem x ((sub l (List.mem_of_getElem? hl)).subset hx)
        refine ⟨rfl, _, rfl, Nat.zero_le _, fun e ne => ?_⟩
        have s4 : Same H4 (upd H4 e (.tup [])) := same_new (Same.refl H4) ne
        have h4 : upd H4 e (.tup []) e = some (.tup []) := upd_same
        generalize upd H4 e (.tup []) = H5 at s4 h4
        obtain ⟨d1, d2, d3⟩ := lot_dp (K := K) (s4 _ _ hlt) lmem
        refine ⟨_, .tuple [], d1, .tup (SqT.of h4) .nil, d2, rfl, ?_⟩
        rw [d3]
        refine ⟨_, rfl, ite2 (fun e1 => ?_) fun e1 => ?_⟩
        · refine ⟨_, rfl, _, rfl, _, rfl, p, lt, B, l, rfl, rp1.same ((s2.trans s3).trans s4), ok, .inr (s4 _ _ hlt), fun c H6 s6 nc hc => in_read (neg := true) (.inr hc) ⟨_, rfl, ?_⟩⟩
          show if (!decide (n ∈ B.clean l)) = true then _ else _
          refine ite2 (fun e2 => ?_) fun e2 => ?_
          · exact ⟨_, rfl, kQ' _ _ (s4.trans s6) (by unfold Bk.bad; rw [e1, e2]; rfl) (rx3.same (s4.trans s6))⟩
          · exact kR _ (s4.trans s6) (by unfold Bk.bad; rw [e1, Bool.true_and]; simpa using e2)
        · refine iteF (kR _ s4 ?_)
          unfold Bk.bad
          have : decide (l ≠ []) = false := by simpa using e1
          rw [this, Bool.false_and]
      · intro H3 zs s3 hD rz
        refine ⟨Dx, zs, lss.filter (B.bad n), B.rows, rfl, hD, rz, ok.rows.nd, r4, fun l hl => sub l (List.mem_filter.mp hl).1, ndl.sublist List.filter_sublist, pw.sublist List.filter_sublist, Nat.le_trans (List.length_filter_le _ _) ll, fun q H4 us s4 nq hq ru => ?_⟩
        rw [sortL_perm_eq (minL_perm (pm.filter (B.bad n)))] at ru
        have sall := ((s1.trans s2).trans s3).trans s4
        refine kQ q H4 us sall (((s1.trans s2).trans s3).free nq) hq ?_
        unfold Bk.chk
        rw [if_pos hn]
        exact ru
end
end Gy

namespace Gy
open PySem L2 PySem.Spec PyProof.Rows
/-! ### the law's own: lots_of, within, part_by_rows, least_of -/
theorem eqv_strs : ∀ x y : List Str, PyData.eqvAll (D.pyAll (x.map D.str)) (D.pyAll (y.map D.str)) = decide (x = y)
  | [], [] => rfl
  | [], _ :: _ => by simp [D.pyAll, PyData.eqvAll]
  | _ :: _, [] => by simp [D.pyAll, PyData.eqvAll]
  | a :: x, b :: y => by
    simp only [List.map_cons, D.pyAll, D.py, PyData.eqvAll, PyData.eqv, eqv_strs x y]
    by_cases h : a = b
    · subst h
      simp
    · simp [h]
theorem within_eq {x y : List Str} : (!decide ((x.filter fun t => !decide (t ∈ y)) ≠ [])) = subB x y := by
  cases h : subB x y with
  | true =>
    have e : (x.filter fun t => !decide (t ∈ y)) = [] := List.filter_eq_nil_iff.mpr fun t ht z => by
      rw [decide_eq_true (subB_iff.mp h t ht)] at z
      cases z
    rw [e]
    rfl
  | false =>
    have e : (x.filter fun t => !decide (t ∈ y)) ≠ [] := fun z => by
      have : subB x y = true := subB_iff.mpr fun t ht => by
        have q := List.filter_eq_nil_iff.mp z t ht
        simpa using q
      rw [h] at this
      cases this
    rw [decide_eq_true e]
    rfl
abbrev sLots2 : Stmt := top 46
def spLots2 (K : PySem.W.Frag) : Sp := fun vs H Q _ => ∃ (R : Addr) (rows : List Str), vs = [.ref R] ∧ H R = some (.tup (rows.map V.str)) ∧ rows.length ≤ 4 ∧
  ∀ (l : Addr) (H' : Hp) (ys : List V), Same H H' → H l = none → H' l = some (.lst ys) → RpAll K H' ys ((sortL (lotsL rows)).map lotD) → Q (.ref l) H'
abbrev sWithin : Stmt := top 47
def spWithin (K : PySem.W.Frag) : Sp := fun vs H Q _ => ∃ (a b : Addr) (x y : List Str), vs = [.ref a, .ref b] ∧ H a = some (.tup (x.map V.str)) ∧ H b = some (.tup (y.map V.str)) ∧ (∀ t ∈ x, t ∈ menu) ∧ x.length ≤ 15 ∧ ∀ H', Same H H' → Q (.bl (subB x y)) H'
abbrev sPart : Stmt := top 48
def spPart (K : PySem.W.Frag) : Sp := fun vs H Q _ => ∃ (p l : Addr) (B : Bk) (lot : List Str), vs = [.ref p, .ref l] ∧ Rp K H (.ref p) B.d ∧ BOk B ∧ H l = some (.tup (lot.map V.str)) ∧ ∀ t H', Same H H' → Rp K H' (.ref t) (B.part lot).d → Q (.ref t) H'
abbrev sLeastOf : Stmt := top 49
def spLeastOf (K : PySem.W.Frag) : Sp := fun vs H Q _ => ∃ (a : Addr) (xs : List V) (ls : List (List Str)), vs = [.ref a] ∧ H a = some (.lst xs) ∧ RpAll K H xs (ls.map lotD) ∧ ((∃ r, ls = [] :: r) ∨ ∀ l ∈ ls, l ≠ []) ∧ (∀ l ∈ ls, (∀ t ∈ l, t ∈ menu) ∧ l.length ≤ 4) ∧ ls.length ≤ 16 ∧
  ∀ (l : Addr) (H' : Hp) (ys : List V), Same H H' → H l = none → H' l = some (.lst ys) → RpAll K H' ys ((sortL (minL ls)).map lotD) → Q (.ref l) H'
section
variable {P : Program} {w : World} {K : PySem.W.Frag} {mg : Str → Option Value} {base : Heap}
theorem scWithin : FnScope ["_law_lot", "_law_other", "_law_one"] ["_law_lot", "_law_other"] (defScope sWithin) := ⟨rfl, rfl, rfl, by decide +kernel, rfl, by decide +kernel, by decide +kernel⟩
theorem ok_within {f : Addr} {fd : FuncData} (F : Fun K "_law_within" "_law_within" sWithin f fd) : FnOk P w K mg base CX0 1 f fd ["_law_lot", "_law_other"] (spWithin K) := by
  refine F.ok scWithin (fun vs H Q E h => ?_) (fun cdv A outer s H vs Q E hr h => ?_)
  · obtain ⟨a, b, x, y, rfl, _⟩ := h
    rfl
  · obtain ⟨a, b, x, y, rfl, ha, hb, hm, l15, kQ⟩ := h
    have nd := scWithin.nd
    have hu := hr.units
    refine ⟨_, pss_one (ps_ret (pe_cmpR (op_eqD hu) (pe_lc (own := [("_law_one", 2)]) (g := gName 2) (tt := tTest (tOp (rIn K true) (tVar 2) (tVar 1))) (te := tVar 2) rfl nd (pi_tup (pv 0))
      (blkOk_by (own := [("_law_one", 2)]) (N := ["_law_lot", "_law_other", "_law_one"]) (sc := defScope sWithin) (by decide +kernel)) (fun _ _ _ _ _ => pg_name (i := 2) nd rfl (Or.inl rfl)) (fun _ _ _ _ _ => pts_one (pt_cmpR op_notIn_seq (pv 2) (pv 1) (by rfl))) (fun _ _ _ _ _ => pv 2)) (pe_lst pa_nil) (nomark _))), ?_⟩
    refine ⟨_, rfl, a, rfl, ⟨_, SqT.of ha⟩, fun Dx nD => ?_⟩
    refine lc_filt (K := K) (walk_tup (xs := x.map V.str)) x (fun t => !decide (t ∈ y)) D.str (by rw [List.length_map]) (fun _ => rfl) nD (by rw [List.length_map]; omega) (fun H' s => SqT.of (s _ _ ha)) ?_ ?_
    · rintro i r v H4 H5 R Q' hi hr' s4 ⟨rfl, hx⟩ kR kQ'
      have ex : v = .str r := by
        rw [List.getElem?_map, hr'] at hx
        exact (Option.some.inj hx).symm
      subst ex
      refine ⟨rfl, _, rfl, _, rfl, in_read (neg := true) (.inr (s4 _ _ hb)) ⟨_, rfl, ?_⟩⟩
      show if (!decide (r ∈ y)) = true then _ else _
      refine ite2 (fun e => ?_) fun e => ?_
      · exact ⟨_, rfl, kQ' _ _ (Same.refl _) e (.str _)⟩
      · exact kR _ (Same.refl _) (by simpa using e)
    · intro H4 ys s4 hD r
      have e := rp_strs r
      subst e
      refine ⟨Nat.zero_le _, fun e ne => ?_⟩
      have s5 : Same H4 (upd H4 e (.lst [])) := same_new (Same.refl H4) ne
      have h5 : upd H4 e (.lst []) e = some (.lst []) := upd_same
      generalize upd H4 e (.lst []) = H5 at s5 h5
      obtain ⟨d1, d2, d3⟩ := strs_dp (K := K) (s5 _ _ hD) fun t ht => hm t (List.mem_filter.mp ht).1
      refine ⟨_, .list [], d1, .lst (SqL.of h5) .nil, d2, rfl, ?_⟩
      have ev : PyData.eqv (.list (D.pyAll ((x.filter fun t => !decide (t ∈ y)).map D.str))) (.list []) = subB x y := by
        rw [← within_eq, ← d3, Bool.not_not]
      rw [ev]
      exact kQ H5 (s4.trans s5)
theorem scLots2 : FnScope ["_law_things", "_law_found", "_law_thing", "_law_lot"] ["_law_things"] (defScope sLots2) := ⟨rfl, rfl, rfl, by decide +kernel, rfl, by decide +kernel, by decide +kernel⟩
theorem ok_lots2 {f : Addr} {fd : FuncData} (F : Fun K "_law_lots_of" "_law_lots_of" sLots2 f fd) (zs : mg "sorted" = none) : FnOk P w K mg base CX0 1 f fd ["_law_things"] (spLots2 K) := by
  refine F.ok scLots2 (fun vs H Q E h => ?_) (fun cdv A outer s H vs Q E hr h => ?_)
  · obtain ⟨R, rows, rfl, _⟩ := h
    rfl
  · obtain ⟨R, rows, rfl, hR, l3, kQ⟩ := h
    have nd := scLots2.nd
    have hu := hr.units
    have hz := sizeLine_eq
    refine ⟨_, pss_cons (ps_set (i := 1) nd rfl (Or.inl rfl) (pe_lst (pa_cons (pe_tup pa_nil) pa_nil)))
      (pss_cons (ps_for PassesOwn.never rfl (pi_tup (pv 0)) (pg_name (i := 2) nd rfl (Or.inr rfl))
        (pss_one (ps_set (i := 1) nd rfl (Or.inl rfl) (pe_op op_cat (pv 1) (pe_lc (own := [("_law_lot", 3)]) (g := gName 3) (tt := tYes) (te := tOp (rCatA K) (tVar 3) (tTup (tCons (tVar 2) tNil))) rfl nd (pi_list (pv 1))
          (blkOk_by (own := [("_law_lot", 3)]) (N := ["_law_things", "_law_found", "_law_thing", "_law_lot"]) (sc := defScope sLots2) (by decide +kernel)) (fun _ _ _ _ _ => pg_name (i := 3) nd rfl (Or.inl rfl)) (fun _ _ _ _ _ => pts_nil) (fun _ _ _ _ _ => pe_op op_catA (pv 3) (pe_tup (pa_cons (pv 2) pa_nil))))))))
      (pss_one (ps_ret (pe_callB (cr_sortedLots hu) (by rfl) zs (by decide +kernel) (pa_cons (pv 1) pa_nil))))), ?_⟩
    refine ⟨Nat.zero_le _, fun t0 nt0 => ⟨by show 1 ≤ sizeLine; decide, fun L nL => ?_⟩⟩
    have s1 : Same H (upd H t0 (.tup [])) := same_new (Same.refl H) nt0
    have h1 : upd H t0 (.tup []) t0 = some (.tup []) := upd_same
    generalize upd H t0 (.tup []) = H1 at s1 h1 nL
    have s2 : Same H1 (upd H1 L (.lst [.ref t0])) := same_new (Same.refl H1) nL
    have h2 : upd H1 L (.lst [.ref t0]) L = some (.lst [.ref t0]) := upd_same
    generalize upd H1 L (.lst [.ref t0]) = H2 at s2 h2
    have s12 := s1.trans s2
    try dsimp only
    show tSeq _ _ _ [some (.ref R), some (.ref L), none, none] H2
    refine ⟨_, rfl, R, rfl, ⟨_, SqT.of (s12 _ _ hR)⟩, for_tup (xs := rows.map V.str) (fun i σ' H' => (∃ (Lf : Addr) (x2 : Option V), σ' = [some (.ref R), some (.ref Lf), x2, none] ∧ Same H H' ∧ ∃ xs, H' Lf = some (.lst xs) ∧ RpAll K H' xs ((lotsL (rows.take i)).map lotD)))
      ⟨L, none, rfl, s12, _, h2, .cons (.tup (s2 _ _ h1) .nil) .nil⟩ (fun i σ' H' _ z => by
        obtain ⟨_, _, _, s, _⟩ := z
        exact SqT.of (s _ _ hR)) ?_ ?_⟩
    · rintro i x σ' H3 hx ⟨Lf, x2, rfl, s3, xs, hLf, rx⟩
      obtain ⟨th, hth, rfl⟩ : ∃ th, rows[i]? = some th ∧ x = V.str th := by
        rw [List.getElem?_map] at hx
        cases z : rows[i]? with
        | none => rw [z] at hx; cases hx
        | some th => rw [z] at hx; exact ⟨th, rfl, (Option.some.inj hx).symm⟩
      have il := (List.getElem?_eq_some_iff.mp hth).1
      have lxs : xs.length = 2 ^ i := by rw [rx.len, List.length_map, lots_len, List.length_take, Nat.min_eq_left (by omega)]
      have l4 : 2 ^ i ≤ 8 := by
        have : i ≤ 3 := by omega
        exact Nat.pow_le_pow_right (by decide : 0 < 2) this
      refine ⟨_, rfl, _, rfl, Lf, rfl, ⟨_, SqL.of hLf⟩, fun Dx nD => ?_⟩
      refine lc_map (K := K) (walk_list (xs := xs)) (((lotsL (rows.take i)).map fun a => a ++ [th]).map lotD) (by rw [List.length_map, List.length_map, rx.len, List.length_map]) (lots_flat _) nD (by omega) (fun H' s => SqL.of (s _ _ hLf)) ?_ ?_ gName_mono
      · rintro m d x Ha Hb Q' hm hd sa ⟨rfl, hx⟩ kk
        obtain ⟨ss, hss, rss⟩ := at_of rx hx
        have ed : d = lotD (ss ++ [th]) := by
          rw [List.map_map, List.getElem?_map, hss] at hd
          exact (Option.some.inj hd).symm
        subst ed
        obtain ⟨t, rfl, ht⟩ := lot_rp (rss.same sa)
        have sl : ss.length ≤ 4 := by
          have q := (mem_lots.mp (List.mem_of_getElem? hss)).length_le
          rw [List.length_take] at q
          omega
        refine ⟨rfl, _, rfl, _, rfl, by show 1 ≤ sizeLine; decide, fun q nq => ?_⟩
        have s5 : Same Hb (upd Hb q (.tup [.str th])) := same_new (Same.refl Hb) nq
        have h5 : upd Hb q (.tup [.str th]) q = some (.tup [.str th]) := upd_same
        generalize upd Hb q (.tup [.str th]) = H5 at s5 h5
        refine ⟨t, q, _, _, rfl, rfl, SqT.of (s5 _ _ ht), SqT.of h5, by rw [List.length_map]; show _ + 1 ≤ _; omega, fun e => ?_, fun _ e => (by cases e), fun ne _ p np => ?_⟩
        · have es : ss = [] := by
            cases ss with
            | nil => rfl
            | cons _ _ => cases e
          subst es
          exact kk _ _ s5 (.tup h5 (.cons (.str _) .nil))
        · have s6 : Same H5 (upd H5 p (.tup (ss.map V.str ++ [.str th]))) := same_new (Same.refl H5) np
          refine kk _ _ (s5.trans s6) (.tup upd_same ?_)
          have e : ss.map V.str ++ [.str th] = (ss ++ [th]).map V.str := by rw [List.map_append]; rfl
          rw [e]
          exact rp_of_strs _
      · intro H4 zs s4 hD r
        have lz : zs.length = 2 ^ i := by rw [r.len, List.length_map, List.length_map, ← lxs, rx.len, List.length_map]
        refine ⟨Lf, Dx, xs, zs, rfl, rfl, s4 _ _ hLf, hD, by omega, fun u nu => ?_⟩
        have s5 : Same H4 (upd H4 u (.lst (xs ++ zs))) := same_new (Same.refl H4) nu
        refine ⟨u, _, rfl, (s3.trans s4).trans s5, xs ++ zs, upd_same, ?_⟩
        rw [lotsL_take hth]
        unfold stepL
        rw [List.map_append]
        exact (RpAll.same (s4.trans s5) rx).append (RpAll.same s5 r)
    · rintro σ' H3 ⟨Lf, x2, rfl, s3, xs, hLf, rx⟩
      rw [List.length_map, List.take_length] at rx
      refine ⟨_, rfl, Lf, xs, lotsL rows, rfl, SqL.of hLf, rx, .inl (lots_head rows), fun ys p ry np => ?_⟩
      have s4 : Same H3 (upd H3 p (.lst ys)) := same_new (Same.refl H3) np
      exact kQ p _ ys (s3.trans s4) (s3.free np) upd_same (RpAll.same s4 ry)
theorem scLeastOf : FnScope ["_law_lots", "_law_lot", "_law_one"] ["_law_lots"] (defScope sLeastOf) := ⟨rfl, rfl, rfl, by decide +kernel, rfl, by decide +kernel, by decide +kernel⟩
theorem ok_leastOf {f : Addr} {fd : FuncData} (F : Fun K "_law_least_of" "_law_least_of" sLeastOf f fd) (zs : mg "sorted" = none) (CW : Cal P w K mg base 1 "_law_within" ["_law_lot", "_law_other"] (spWithin K)) : FnOk P w K mg base CX0 2 f fd ["_law_lots"] (spLeastOf K) := by
  refine F.ok scLeastOf (fun vs H Q E h => ?_) (fun cdv A outer s H vs Q E hr h => ?_)
  · obtain ⟨a, xs, ls, rfl, _⟩ := h
    rfl
  · obtain ⟨a, xs, ls, rfl, ha, rx, hc, hls, l16, kQ⟩ := h
    have nd := scLeastOf.nd
    have hu := hr.units
    refine ⟨_, pss_one (ps_ret (pe_lc (own := [("_law_lot", 1)]) (g := gName 1) (tt := tTest (tOp (rEqD K) (tLc (iList K (tVar 0)) (gName 2) (tAnd (tTest (tOp (rNeD K) (tVar 2) (tVar 1))) (tB (tCall (spWithin K) [] E0 (tCons (tVar 2) (tCons (tVar 1) tNil))))) (tVar 2) [2]) (tLst tNil))) (te := tVar 1) rfl nd (pi_list (pe_callB (cr_sortedLots hu) (by rfl) zs (by decide +kernel) (pa_cons (pv 0) pa_nil)))
      (blkOk_by (own := [("_law_lot", 1)]) (N := ["_law_lots", "_law_lot", "_law_one"]) (sc := defScope sLeastOf) (by decide +kernel)) (fun _ _ _ _ _ => pg_name (i := 1) nd rfl (Or.inr rfl))
      (fun _ _ _ _ _ => pts_one (pt_cmpR (op_eqD hu) (pe_lc (own := [("_law_one", 2)]) (g := gName 2) (tt := tAnd (tTest (tOp (rNeD K) (tVar 2) (tVar 1))) (tB (tCall (spWithin K) [] E0 (tCons (tVar 2) (tCons (tVar 1) tNil))))) (te := tVar 2) rfl nd (pi_list (pv 0))
        (blkOk_by (by rfl)) (fun _ _ _ _ _ => pg_name (i := 2) nd rfl (Or.inl rfl)) (fun _ _ _ _ _ => pts_one (PW.pt (pw_and (pt_cmpR (op_neD hu) (pv 2) (pv 1) (nomark _)) (pw_and1 (pt_val (pe_cal CW hr rfl (pa_cons (pv 2) (pa_cons (pv 1) pa_nil)))))))) (fun _ _ _ _ _ => pv 2)) (pe_lst pa_nil) (nomark _))) (fun _ _ _ _ _ => pv 1))), ?_⟩
    have lxs : xs.length = ls.length := by rw [rx.len, List.length_map]
    refine ⟨_, rfl, a, xs, ls, rfl, SqL.of ha, rx, hc, fun ys p ry np => ?_⟩
    have s1 : Same H (upd H p (.lst ys)) := same_new (Same.refl H) np
    have h1 : upd H p (.lst ys) p = some (.lst ys) := upd_same
    generalize upd H p (.lst ys) = H1 at s1 h1
    have ry1 := RpAll.same s1 ry
    have lys : ys.length = (sortL ls).length := by rw [ry.len, List.length_map]
    have lsl : (sortL ls).length = ls.length := (sortL_perm ls).length_eq
    refine ⟨p, rfl, ⟨_, SqL.of h1⟩, fun Dx nD => ?_⟩
    refine lc_filt (K := K) (walk_list (xs := ys)) (sortL ls) (minB ls) lotD lys.symm lot_flat nD (by omega) (fun H' s => SqL.of (s _ _ h1)) ?_ ?_
    · rintro j l x H3 H4 R Q' hj hl s3 ⟨rfl, hx⟩ kR kQ'
      obtain ⟨l', hl', rx'⟩ := at_of ry1 hx
      have en : l = l' := by rw [hl] at hl'; exact Option.some.inj hl'
      subst en
      have rx3 := rx'.same s3
      obtain ⟨lt, rfl, hlt⟩ := lot_rp rx3
      have lin : l ∈ ls := (sortL_perm ls).mem_iff.mp (List.mem_of_getElem? hl)
      obtain ⟨lm, l4⟩ := hls l lin
      have ha3 := (s1.trans s3) _ _ ha
      refine ⟨rfl, _, rfl, a, rfl, ⟨_, SqL.of ha3⟩, fun Dy nDy => ?_⟩
      refine lc_filt (K := K) (walk_list (xs := xs)) ls (fun o => decide (o ≠ l) && subB o l) lotD lxs.symm lot_flat nDy (by omega) (fun H' s => SqL.of (s _ _ ha3)) ?_ ?_
      · rintro i o x H5 H6 R2 Q2 hi ho s5 ⟨rfl, hx⟩ kR2 kQ2
        obtain ⟨o', ho', ro⟩ := at_of rx hx
        have en : o = o' := by rw [ho] at ho'; exact Option.some.inj ho'
        subst en
        have ro6 := ro.same ((s1.trans s3).trans s5)
        obtain ⟨ot, rfl, hot⟩ := lot_rp ro6
        obtain ⟨om, o4⟩ := hls o (List.mem_of_getElem? ho)
        have hlt6 := s5 _ _ hlt
        obtain ⟨d1, d2, _⟩ := lot_dp (K := K) hot om
        obtain ⟨c1, c2, _⟩ := lot_dp (K := K) hlt6 lm
        refine ⟨rfl, _, rfl, _, rfl, _, _, d1, c1, d2, c2, ?_⟩
        have ev : (!PyData.eqv (.tuple (D.pyAll (o.map D.str))) (.tuple (D.pyAll (l.map D.str)))) = decide (o ≠ l) := by
          show (!PyData.eqvAll _ _) = _
          rw [eqv_strs]
          by_cases h : o = l
          · simp [h]
          · simp [h]
        rw [ev]
        refine ⟨_, rfl, ite2 (fun e1 => ?_) fun e1 => ?_⟩
        · refine ⟨_, rfl, _, rfl, ot, lt, o, l, rfl, hot, hlt6, om, by omega, fun H7 s7 => ⟨_, rfl, ite2 (fun e2 => ?_) fun e2 => ?_⟩⟩
          · exact ⟨_, rfl, kQ2 _ _ s7 (by rw [e1, e2]; rfl) (ro6.same s7)⟩
          · exact kR2 _ s7 (by rw [e1, Bool.true_and]; simpa using e2)
        · refine iteF (kR2 _ (Same.refl _) ?_)
          have : decide (o ≠ l) = false := by simpa using e1
          rw [this, Bool.false_and]
      · intro H5 zs s5 hDy rz
        refine ⟨Nat.zero_le _, fun e ne => ?_⟩
        have s6 : Same H5 (upd H5 e (.lst [])) := same_new (Same.refl H5) ne
        have h6 : upd H5 e (.lst []) e = some (.lst []) := upd_same
        generalize upd H5 e (.lst []) = H6 at s6 h6
        have fl := FineL.of (ds := (ls.filter fun o => decide (o ≠ l) && subB o l).map lotD) (n := 20) (m := 1) fun d hd => by
          obtain ⟨o, ho, rfl⟩ := List.mem_map.mp hd
          obtain ⟨om, o4⟩ := hls o (List.mem_filter.mp ho).1
          exact (fine_strs om).tup.mono (by omega) (by decide)
        obtain ⟨d1, d2, d3⟩ := empty_dp (s6 _ _ hDy) (RpAll.same s6 rz) fl (by decide)
        refine ⟨_, .list [], d1, .lst (SqL.of h6) .nil, d2, rfl, ?_⟩
        rw [d3, isEmpty_map]
        have s56 := s5.trans s6
        refine ⟨_, rfl, ?_⟩
        show if minB ls l = true then _ else _
        refine ite2 (fun e2 => ?_) fun e2 => ?_
        · exact ⟨_, rfl, kQ' _ _ s56 e2 (rx3.same s56)⟩
        · exact kR _ s56 (by simpa using e2)
    · intro H3 zs s3 hD rz
      rw [least_law] at rz
      exact kQ Dx H3 zs (s1.trans s3) (s1.free nD) hD rz
end
end Gy

namespace Gy
open PySem L2 PySem.Spec PyProof.Rows
/-! ### the law's own: part_by_rows, supports, chokes -/
theorem rows_bad {l : List Str} (g : List Nd) : ((g.filter fun n => !(rowIn l n)).map Nd.d).isEmpty = rowsIn l g := by
  rw [isEmpty_map, filt_all]
  rfl
theorem drop_cut (xs : List V) : cutV xs (some 1) none = xs.drop 1 := by
  unfold cutV
  have e : HT.sIx xs.length 0 (some 1) = min 1 xs.length := HT.sIx_nat xs.length 0 1
  have e' : HT.sIx xs.length xs.length none = xs.length := rfl
  rw [e, e']
  cases xs with
  | nil => rfl
  | cons x xs =>
    have : min 1 (x :: xs).length = 1 := by rw [List.length_cons]; omega
    rw [this, List.take_of_length_le (by rw [List.length_drop]; omega)]
section
variable {P : Program} {w : World} {K : PySem.W.Frag} {mg : Str → Option Value} {base : Heap}
theorem scPart : FnScope ["_law_rulebook_here", "_law_lot", "_law_found", "_law_name", "_law_keep", "_law_bar", "_law_grounds", "_law_kept", "_law_ground_here", "_law_bad", "_law_need_here"] ["_law_rulebook_here", "_law_lot"] (defScope sPart) := ⟨rfl, rfl, rfl, by decide +kernel, rfl, by decide +kernel, by decide +kernel⟩
theorem ok_part {f : Addr} {fd : FuncData} (F : Fun K "_law_part_by_rows" "_law_part_by_rows" sPart f fd) (zt : mg "tuple" = none) (zi : mg "int" = none) : FnOk P w K mg base CX0 1 f fd ["_law_rulebook_here", "_law_lot"] (spPart K) := by
  refine F.ok scPart (fun vs H Q E h => ?_) (fun cdv A outer s H vs Q E hr h => ?_)
  · obtain ⟨p, l, B, lot, rfl, _⟩ := h
    rfl
  · obtain ⟨p, l, B, lot, rfl, rp, ok, hl, kQ⟩ := h
    have nd := scPart.nd
    have hu := hr.units
    have hz := sizeLine_eq
    refine ⟨_, pss_cons (ps_set (i := 2) nd rfl (Or.inl rfl) (pe_lst pa_nil))
      (pss_cons (ps_for PassesOwn.never rfl (pi_tup (pe_ix ix_tup (pv 0) pe_int (fun _ _ => rfl))) (pg_tup rfl (pgs_cons (pg_name (i := 3) nd rfl (Or.inl rfl)) (pgs_cons (pg_name (i := 4) nd rfl (Or.inl rfl)) (pgs_cons (pg_name (i := 5) nd rfl (Or.inl rfl)) (pgs_cons (pg_name (i := 6) nd rfl (Or.inl rfl)) pgs_nil)))))
        (pss_cons (ps_set (i := 7) nd rfl (Or.inl rfl) (pe_lst pa_nil))
        (pss_cons (ps_for PassesOwn.never rfl (pi_tup (pv 6)) (pg_name (i := 8) nd rfl (Or.inl rfl))
          (pss_cons (ps_setLc (i := 9) (own := [("_law_need_here", 10)]) (g := gName 10) (tt := tAnd (tTest (tOp rEq (tOp (rIxT K) (tVar 10) (tC (.int 0))) (tC (.str "row")))) (tTest (tOp (rIn K true) (tOp (rIxT K) (tVar 10) (tC (.int 1))) (tVar 1)))) (te := tVar 10) rfl nd rfl rfl (sw_true rfl rfl rfl (by decide +kernel)) (pi_tup (pv 8))
            (blkOk_by (own := [("_law_need_here", 10)]) (N := ["_law_rulebook_here", "_law_lot", "_law_found", "_law_name", "_law_keep", "_law_bar", "_law_grounds", "_law_kept", "_law_ground_here", "_law_bad", "_law_need_here"]) (sc := defScope sPart) (by decide +kernel)) (fun _ _ _ _ _ => pg_name (i := 10) nd rfl (Or.inl rfl))
            (fun _ _ _ _ _ => pts_one (PW.pt (pw_and (pt_cmpR op_eq (pe_ix ix_tup (pv 10) pe_int (fun _ _ => rfl)) pe_str (nomark _)) (pw_and1 (pt_cmpR op_notIn_seq (pe_ix ix_tup (pv 10) pe_int (fun _ _ => rfl)) (pv 1) (by rfl)))))) (fun _ _ _ _ _ => pv 10))
          (pss_one (ps_expr (by exact (pe_bm PySem.F.plainAttrs_list PySem.F.slot_list_extend PySem.F.type_list_extend mt_extend (pv 7) (pa_cons (pe_op op_rep (pe_lst (pa_cons (pv 8) pa_nil)) (pe_callTy call_int1 (by rfl) zi (by decide +kernel) (pa_cons (pe_cmpR (op_eqD hu) (pv 9) (pe_lst pa_nil) (nomark _)) pa_nil))) pa_nil)))))))
        (pss_one (ps_expr (by exact (pe_bm PySem.F.plainAttrs_list PySem.F.slot_list_append PySem.F.type_list_append mt_append (pv 2) (pa_cons (pe_tup (pa_cons (pv 3) (pa_cons (pv 4) (pa_cons (pv 5) (pa_cons (pe_tupleOf (by rfl) zt (pv 7)) pa_nil))))) pa_nil))))))))
      (pss_one (ps_ret (pe_tup (pa_cons (pe_ix ix_tup (pv 0) pe_int (fun _ _ => rfl)) (pa_cons (pe_tupleOf (by rfl) zt (pv 2)) pa_nil)))))), ?_⟩
    obtain ⟨pr, pk, ks, hp, hpr, hpk, rks⟩ := Bk.rp_rows rp
    have lb := ok.len
    have lk : ks.length = B.kinds.length := by rw [rks.len, List.length_map]
    refine ⟨Nat.zero_le _, fun L nL => ?_⟩
    have g0 : Grow K H (upd H L (.lst [])) L (([] : List Kd).map fun k : Kd => (k.part lot).d) := Grow.start nL
    try dsimp only
    show tSeq _ _ _ [some (.ref p), some (.ref l), some (.ref L), none, none, none, none, none, none, none, none] (upd H L (.lst []))
    refine ⟨_, rfl, p, _, 1, .ref pk, rfl, rfl, SqT.of (g0.same _ _ hp), atI_nat (j := 1) rfl, pk, rfl, ⟨_, SqT.of (g0.same _ _ hpk)⟩, for_tup (xs := ks) (fun i σ' H' => (∃ x3 x4 x5 x6 x7 x8 x9, σ' = [some (.ref p), some (.ref l), some (.ref L), x3, x4, x5, x6, x7, x8, x9, none]) ∧ Grow K H H' L ((B.kinds.take i).map fun k : Kd => (k.part lot).d))
      ⟨⟨_, _, _, _, _, _, _, rfl⟩, g0⟩ (fun i σ' H' _ z => SqT.of (z.2.same _ _ hpk)) ?_ ?_⟩
    · rintro i x σ' H3 hi ⟨⟨x3, x4, x5, x6, x7, x8, x9, rfl⟩, g3⟩
      obtain ⟨kd, hk, rk⟩ := at_of rks hi
      obtain ⟨a, ga, gvs, rfl, ha, hga, rg⟩ := Kd.rp (rk.same g3.same)
      have kin : kd ∈ B.kinds := List.mem_of_getElem? hk
      have okk := ok.kinds kd kin
      have lg4 := okk.len
      have lgv : gvs.length = kd.gs.length := by rw [rg.len, List.length_map]
      have il : i < 15 := by
        have := (List.getElem?_eq_some_iff.mp hk).1
        omega
      refine ⟨a, _, rfl, SqT.of ha, rfl, _, _, rfl, _, _, rfl, _, _, rfl, _, _, rfl, rfl, Nat.zero_le _, fun Kt nKt => ?_⟩
      have gk0 : Grow K H3 (upd H3 Kt (.lst [])) Kt (([] : List (List Nd)).map gd) := Grow.start nKt
      try dsimp only
      show tSeq _ _ _ [some (.ref p), some (.ref l), some (.ref L), some (.str kd.name), some (.int kd.keep), some (.int kd.bar), some (.ref ga), some (.ref Kt), x8, x9, none] (upd H3 Kt (.lst []))
      refine ⟨_, rfl, ga, rfl, ⟨_, SqT.of (gk0.same _ _ hga)⟩, for_tup (xs := gvs) (fun j σ' H' => (∃ x8 x9, σ' = [some (.ref p), some (.ref l), some (.ref L), some (.str kd.name), some (.int kd.keep), some (.int kd.bar), some (.ref ga), some (.ref Kt), x8, x9, none]) ∧ Grow K H3 H' Kt (((kd.gs.take j).filter (rowsIn lot)).map gd))
        ⟨⟨_, _, rfl⟩, gk0⟩ (fun j σ' H' _ z => SqT.of (z.2.same _ _ hga)) ?_ ?_⟩
      · rintro j x σ' H4 hj ⟨⟨x8, x9, rfl⟩, g4⟩
        obtain ⟨g, hg, rgv⟩ := at_of rg hj
        have gin := List.mem_of_getElem? hg
        have okg := okk.gs g gin
        have jl : j < 4 := by
          have := (List.getElem?_eq_some_iff.mp hg).1
          omega
        have rgv4 := rgv.same g4.same
        have rgv4' := rgv4
        obtain ⟨gt, nvs, rfl, hgt, rn⟩ := gd_rp rgv4
        have ln : nvs.length = g.length := by rw [rn.len, List.length_map]
        have l3 := okg.len
        try dsimp only
        show tSeq _ _ _ [some (.ref p), some (.ref l), some (.ref L), some (.str kd.name), some (.int kd.keep), some (.int kd.bar), some (.ref ga), some (.ref Kt), some (.ref gt), x9, none] H4
        refine ⟨_, rfl, gt, rfl, ⟨_, SqT.of hgt⟩, fun M nM => ?_⟩
        refine lc_filt (K := K) (walk_tup (xs := nvs)) g (fun n => !(rowIn lot n)) Nd.d ln.symm nd_flat nM (by omega) (fun H' s => SqT.of (s _ _ hgt)) ?_ ?_
        · rintro q n x H9 H10 R Q' hq hn s9 ⟨rfl, hx⟩ kR kQ'
          obtain ⟨n', hn', rx⟩ := at_of rn hx
          have en : n = n' := by rw [hn] at hn'; exact Option.some.inj hn'
          subst en
          have rx9 := rx.same s9
          obtain ⟨u, rfl, hu⟩ := nd_rp rx9
          refine ⟨rfl, _, rfl, u, _, 0, .str n.word, rfl, rfl, SqT.of hu, atI_nat (j := 0) (vs0 n), rfl, _, rfl, ?_⟩
          rw [isrow]
          cases n with
          | knd r a t m => exact iteF (iteF (kR _ (Same.refl _) rfl))
          | row r t m =>
            refine iteT ⟨_, rfl, u, _, 1, .str r, rfl, rfl, SqT.of hu, atI_nat (j := 1) rfl, _, rfl, in_read (neg := true) (.inr ((g3.same.trans (g4.same.trans s9)) _ _ hl)) ⟨_, rfl, ?_⟩⟩
            show if (!decide (r ∈ lot)) = true then _ else _
            refine ite2 (fun e => ?_) fun e => ?_
            · exact ⟨_, rfl, kQ' _ _ (Same.refl _) e rx9⟩
            · exact kR _ (Same.refl _) (by simpa [rowIn] using e)
        · intro H5 ys s5 hM rM
          try dsimp only
          obtain ⟨zs0, hK5, rK5⟩ := (g4.later (flat_map gd_flat _) s5).ex
          refine ⟨_, rfl, .inl ⟨rfl, _, SqL.of hK5⟩, _, rfl, by show 1 ≤ sizeLine; decide, fun a1 na1 => ?_⟩
          have s6 : Same H5 (upd H5 a1 (.lst [.ref gt])) := same_new (Same.refl H5) na1
          have h6 : upd H5 a1 (.lst [.ref gt]) a1 = some (.lst [.ref gt]) := upd_same
          generalize upd H5 a1 (.lst [.ref gt]) = H6 at s6 h6
          refine ⟨_, rfl, Nat.zero_le _, fun e ne => ?_⟩
          have s7 : Same H6 (upd H6 e (.lst [])) := same_new (Same.refl H6) ne
          have h7 : upd H6 e (.lst []) e = some (.lst []) := upd_same
          generalize upd H6 e (.lst []) = H7 at s7 h7
          have s57 := s6.trans s7
          obtain ⟨d1, d2, d3⟩ := empty_dp (s57 _ _ hM) (RpAll.same s57 rM) (fine_nds ok fun n hn => okg.ok n (List.mem_filter.mp hn).1) (by decide)
          refine ⟨_, .list [], d1, .lst (SqL.of h7) .nil, d2, rfl, ?_⟩
          rw [d3, rows_bad]
          refine .inr ⟨_, rfl, a1, _, _, rfl, rfl, s7 _ _ h6, ?_, ?_, ?_, fun a2 na2 => ?_⟩
          · split <;> decide
          · split <;> decide
          · show 1 * _ ≤ sizeLine
            rw [sizeLine_eq]; split <;> decide
          · rw [rep1]
            have ef := filter_take (rowsIn lot) hg
            generalize rowsIn lot g = q at ef ⊢
            have s8 : Same H7 (upd H7 a2 (.lst (if q = true then [V.ref gt] else []))) := same_new (Same.refl H7) na2
            have h8 : upd H7 a2 (.lst (if q = true then [V.ref gt] else [])) a2 = some (.lst (if q = true then [V.ref gt] else [])) := upd_same
            generalize upd H7 a2 (.lst (if q = true then [V.ref gt] else [])) = H8 at s8 h8
            have s58 := s57.trans s8
            have g8 := g4.later (flat_map gd_flat _) (s5.trans s58)
            have rj : RpAll K H8 (if q = true then [V.ref gt] else []) ((if q = true then [g] else [] : List (List Nd)).map gd) := by
              cases q with
              | false => exact .nil
              | true => exact .cons (rgv4'.same (s5.trans s58)) .nil
            obtain ⟨zs, hK8, lz, g9⟩ := g8.more nKt (flat_map gd_flat _) (flat_map gd_flat _) rj
            have lz' : zs.length ≤ 4 := by
              rw [lz, List.length_map]
              refine Nat.le_trans (List.length_filter_le _ _) ?_
              rw [List.length_take]
              omega
            refine ⟨Kt, a2, zs, _, rfl, rfl, hK8, h8, ?_, ⟨_, _, rfl⟩, ?_⟩
            · have : (if q = true then [V.ref gt] else []).length ≤ 1 := by
                cases q with
                | true => exact Nat.le_refl _
                | false => exact Nat.zero_le _
              omega
            · rw [ef, List.map_append]
              exact g9
      · rintro σ' H4 ⟨⟨x8, x9, rfl⟩, g4⟩
        rw [lgv, List.take_length] at g4
        obtain ⟨zs, hK4, rz⟩ := g4.ex
        have gl4 := g3.later (flat_map (fun k : Kd => kd_flat (k.part lot)) _) g4.same
        obtain ⟨ls0, hL4, _⟩ := gl4.ex
        refine ⟨_, rfl, .inl ⟨rfl, _, SqL.of hL4⟩, _, rfl, _, rfl, _, rfl, _, rfl, .inl ⟨Kt, zs, rfl, SqL.of hK4, fun tg ntg => ⟨by show 4 ≤ sizeLine; decide, fun tk ntk => ?_⟩⟩⟩
        have s5 : Same H4 (upd H4 tg (.tup zs)) := same_new (Same.refl H4) ntg
        have h5 : upd H4 tg (.tup zs) tg = some (.tup zs) := upd_same
        generalize upd H4 tg (.tup zs) = H5 at s5 h5 ntk
        have s6 : Same H5 (upd H5 tk (.tup [.str kd.name, .int kd.keep, .int kd.bar, .ref tg])) := same_new (Same.refl H5) ntk
        have h6 : upd H5 tk (.tup [.str kd.name, .int kd.keep, .int kd.bar, .ref tg]) tk = some (.tup [.str kd.name, .int kd.keep, .int kd.bar, .ref tg]) := upd_same
        generalize upd H5 tk (.tup [.str kd.name, .int kd.keep, .int kd.bar, .ref tg]) = H6 at s6 h6
        have s46 := s5.trans s6
        have g6 := gl4.later (flat_map (fun k : Kd => kd_flat (k.part lot)) _) s46
        have rj : RpAll K H6 [.ref tk] (([kd] : List Kd).map fun k : Kd => (k.part lot).d) := .cons (.tup h6 (.cons (.str _) (.cons (.int _) (.cons (.int _) (.cons (.tup (s6 _ _ h5) (RpAll.same s46 rz)) .nil))))) .nil
        obtain ⟨us, hL6, lu, g7⟩ := g6.more nL (flat_map (fun k : Kd => kd_flat (k.part lot)) _) (flat_map (fun k : Kd => kd_flat (k.part lot)) _) rj
        have lu' : us.length ≤ 15 := by
          rw [lu, List.length_map, List.length_take]
          omega
        refine ⟨L, us, .ref tk, rfl, rfl, hL6, by omega, ⟨_, _, _, _, _, _, _, rfl⟩, ?_⟩
        rw [take_snoc hk, List.map_append]
        exact g7
    · rintro σ' H3 ⟨⟨x3, x4, x5, x6, x7, x8, x9, rfl⟩, g3⟩
      rw [lk, List.take_length] at g3
      obtain ⟨us, hL3, ru⟩ := g3.ex
      have hpr3 := g3.same _ _ hpr
      refine ⟨_, rfl, p, _, 0, .ref pr, rfl, rfl, SqT.of (g3.same _ _ hp), atI_nat (j := 0) rfl, _, rfl, .inl ⟨L, us, rfl, SqL.of hL3, fun tk ntk => ⟨by show 2 ≤ sizeLine; decide, fun t nt => ?_⟩⟩⟩
      have s5 : Same H3 (upd H3 tk (.tup us)) := same_new (Same.refl H3) ntk
      have h5 : upd H3 tk (.tup us) tk = some (.tup us) := upd_same
      generalize upd H3 tk (.tup us) = H5 at s5 h5 nt
      have s6 : Same H5 (upd H5 t (.tup [.ref pr, .ref tk])) := same_new (Same.refl H5) nt
      have s36 := s5.trans s6
      refine kQ t _ (g3.same.trans s36) ?_
      refine .tup upd_same (.cons (.tup (s36 _ _ hpr3) (rp_of_strs _)) (.cons (.tup (s6 _ _ h5) ?_) .nil))
      have q := RpAll.same s36 ru
      show RpAll K _ us ((B.kinds.map (Kd.part lot)).map Kd.d)
      rw [List.map_map]
      exact q
end
end Gy

namespace L2
open PySem PySem.Spec PyProof.Rows
section
variable {X : Cx} {tg e : Expr} {td : TE}
/-- for k in e, e a dict that nobody else has -/
def iKeysF (td : TE) : TI := fun σ H R => td σ H fun x H1 => ∃ d kvs, x = .ref d ∧ H1 d = some (.dK kvs) ∧ ∀ od, R (Itk d od kvs) (upd H1 d (.frz od (.dK kvs)))
theorem pi_keysF (he : PE X e td) : PI X tg e (iKeysF td) := by
  refine ⟨fun pins s σ H R I h => ?_⟩
  refine thn (he.run pins s σ H _ I h) fun u s1 ⟨x, H1, I1, rx, d, kvs, ex, hd, q⟩ => ?_
  subst ex
  obtain rfl : u = Value.ref d := rx
  obtain ⟨od, I2⟩ := I1.lock hd trivial
  have hd2 : upd H1 d (.frz od (.dK kvs)) d = some (.frz od (.dK kvs)) := upd_same
  obtain ⟨hs, hgd, hx, es, ep, vs, hdt, hsz, kv, hm⟩ := I2.frzK hd2
  refine iter_keys hs hgd hx hdt (pi_one (tk := s1.toks) I2 _ (turn_keys _ hdt) ⟨_, Heap.get?_push_size _ rfl, rfl, ?_⟩ (q od))
  rw [hsz] <;> rfl
end
end L2
namespace Gy
open PySem L2 PySem.Spec PyProof.Rows
/-! ### the law's own: supports, chokes -/
theorem cond_filter {rows : List Str} (nd : rows.Nodup) (f : List Str → Bool) : (∃ r, (sortL (lotsL rows)).filter f = [] :: r) ∨ ∀ l ∈ (sortL (lotsL rows)).filter f, l ≠ [] := by
  obtain ⟨t, e, pm⟩ := sort_tail nd
  rw [e]
  have ne : ∀ l ∈ t, l ≠ [] := fun l hl => of_decide_eq_true (List.mem_filter.mp (pm.mem_iff.mp hl)).2
  rw [List.filter_cons]
  by_cases h : f [] = true
  · rw [if_pos h]
    exact .inl ⟨_, rfl⟩
  · rw [if_neg h]
    exact .inr fun l hl => ne l (List.mem_filter.mp hl).1
abbrev sSupL : Stmt := top 50
def spSupL (K : PySem.W.Frag) : Sp := fun vs H Q _ => ∃ (p : Addr) (B : Bk) (n : Str), vs = [.ref p, .str n] ∧ Rp K H (.ref p) B.d ∧ BOk B ∧ B.rows.length ≤ 4 ∧ ∀ (l : Addr) (H' : Hp) (ys : List V), Same H H' → H l = none → H' l = some (.lst ys) → RpAll K H' ys ((B.sup n).map lotD) → Q (.ref l) H'
abbrev sChkL : Stmt := top 51
def spChkL (K : PySem.W.Frag) : Sp := fun vs H Q _ => ∃ (p : Addr) (B : Bk) (n : Str), vs = [.ref p, .str n] ∧ Rp K H (.ref p) B.d ∧ BOk B ∧ B.rows.length ≤ 4 ∧ ∀ (l : Addr) (H' : Hp) (ys : List V), Same H H' → H l = none → H' l = some (.lst ys) → RpAll K H' ys ((B.chk n).map lotD) → Q (.ref l) H'
theorem lot_small {B : Bk} (ok : BOk B) (r4 : B.rows.length ≤ 4) {l : List Str} (h : l ∈ lotsL B.rows) : (∀ t ∈ l, t ∈ menu) ∧ l.length ≤ 4 := by
  have s := mem_lots.mp h
  exact ⟨fun t ht => ok.rows.mem t (s.subset ht), Nat.le_trans s.length_le r4⟩
theorem lots16 {rows : List Str} (r4 : rows.length ≤ 4) : (lotsL rows).length ≤ 16 := by
  rw [lots_len]
  exact Nat.pow_le_pow_right (by decide : 0 < 2) r4
section
variable {P : Program} {w : World} {K : PySem.W.Frag} {mg : Str → Option Value} {base : Heap}
theorem scSupL : FnScope ["_law_rulebook_here", "_law_name", "_law_lots", "_law_lot"] ["_law_rulebook_here", "_law_name"] (defScope sSupL) := ⟨rfl, rfl, rfl, by decide +kernel, rfl, by decide +kernel, by decide +kernel⟩
theorem ok_supL {f : Addr} {fd : FuncData} (F : Fun K "_law_supports" "_law_supports" sSupL f fd) (CL : Cal P w K mg base 1 "_law_lots_of" ["_law_things"] (spLots2 K)) (CP : Cal P w K mg base 1 "_law_part_by_rows" ["_law_rulebook_here", "_law_lot"] (spPart K)) (CB : Cal P w K mg base 2 "_law_bearing" ["_law_rulebook_here"] (spBearing K)) (CLe : Cal P w K mg base 2 "_law_least_of" ["_law_lots"] (spLeastOf K)) : FnOk P w K mg base CX0 3 f fd ["_law_rulebook_here", "_law_name"] (spSupL K) := by
  refine F.ok scSupL (fun vs H Q E h => ?_) (fun cdv A outer s H vs Q E hr h => ?_)
  · obtain ⟨p, B, n, rfl, _⟩ := h
    rfl
  · obtain ⟨p, B, n, rfl, rp, ok, r4, kQ⟩ := h
    have nd := scSupL.nd
    have hr1 := hr.mono (by decide : 1 ≤ 2)
    refine ⟨_, pss_cons (ps_set (i := 2) nd rfl (Or.inl rfl) (pe_cal CL hr1 rfl (pa_cons (pe_ix ix_tup (pv 0) pe_int (fun _ _ => rfl)) pa_nil)))
      (pss_one (ps_ret (pe_cal CLe hr rfl (pa_cons (pe_lc (own := [("_law_lot", 3)]) (g := gName 3) (tt := tTest (tOp (rIn K false) (tVar 1) (tCall (spBearing K) [] E0 (tCons (tCall (spPart K) [] E0 (tCons (tVar 0) (tCons (tVar 3) tNil))) tNil)))) (te := tVar 3) rfl nd (pi_list (pv 2))
        (blkOk_by (own := [("_law_lot", 3)]) (N := ["_law_rulebook_here", "_law_name", "_law_lots", "_law_lot"]) (sc := defScope sSupL) (by decide +kernel)) (fun _ _ _ _ _ => pg_name (i := 3) nd rfl (Or.inl rfl))
        (fun _ _ _ _ _ => pts_one (pt_cmpR op_in_seq (pv 1) (pe_cal CB hr rfl (pa_cons (pe_cal CP hr1 rfl (pa_cons (pv 0) (pa_cons (pv 3) pa_nil))) pa_nil)) (by rfl))) (fun _ _ _ _ _ => pv 3)) pa_nil)))), ?_⟩
    obtain ⟨pr, pk, ks, hp, hpr, hpk, rks⟩ := Bk.rp_rows rp
    refine ⟨_, rfl, p, _, 0, .ref pr, rfl, rfl, SqT.of hp, atI_nat (j := 0) rfl, pr, B.rows, rfl, hpr, r4, fun A' H1 ys s1 nA hA ry => ?_⟩
    try dsimp only
    show tRet _ _ [some (.ref p), some (.str n), some (.ref A'), none] H1
    have rp1 := rp.same s1
    have lys : ys.length = (sortL (lotsL B.rows)).length := by rw [ry.len, List.length_map]
    have l16 : (sortL (lotsL B.rows)).length ≤ 16 := by rw [(sortL_perm _).length_eq]; exact lots16 r4
    refine ⟨_, rfl, A', rfl, ⟨_, SqL.of hA⟩, fun Dx nD => ?_⟩
    refine lc_filt (K := K) (walk_list (xs := ys)) (sortL (lotsL B.rows)) (B.good n) lotD lys.symm lot_flat nD (by omega) (fun H' s => SqL.of (s _ _ hA)) ?_ ?_
    · rintro j l x H3 H4 R Q' hj hl s3 ⟨rfl, hx⟩ kR kQ'
      obtain ⟨l', hl', rx⟩ := at_of ry hx
      have en : l = l' := by rw [hl] at hl'; exact Option.some.inj hl'
      subst en
      have rx3 := rx.same s3
      obtain ⟨lt, rfl, hlt⟩ := lot_rp rx3
      refine ⟨rfl, _, rfl, _, rfl, _, rfl, p, lt, B, l, rfl, rp1.same s3, ok, hlt, fun t H5 s5 rpt => ⟨t, B.part l, rfl, rpt, part_ok ok l, fun bl H6 ls s6 nb hb pb => ?_⟩⟩
      have e : decide (n ∈ ls) = B.good n l := by
        unfold Bk.good
        rw [← part_bear ok]
        exact decide_eq_decide.mpr pb.mem_iff
      have s56 := s5.trans s6
      refine in_read (neg := false) (.inl hb) ⟨_, rfl, ?_⟩
      show if decide (n ∈ ls) = true then _ else _
      rw [e]
      refine ite2 (fun e1 => ?_) fun e1 => ?_
      · exact ⟨_, rfl, kQ' _ _ s56 e1 (rx3.same s56)⟩
      · exact kR _ s56 (by simpa using e1)
    · intro H3 zs s3 hD rz
      refine ⟨Dx, zs, (sortL (lotsL B.rows)).filter (B.good n), rfl, hD, rz, cond_filter ok.rows.nd _, fun l hl => lot_small ok r4 ((sortL_perm _).mem_iff.mp (List.mem_filter.mp hl).1), Nat.le_trans (List.length_filter_le _ _) l16, fun q H4 us s4 nq hq ru => ?_⟩
      rw [sortL_perm_eq (minL_perm ((sortL_perm (lotsL B.rows)).filter (B.good n)))] at ru
      exact kQ q H4 us ((s1.trans s3).trans s4) ((s1.trans s3).free nq) hq ru
theorem scChkL : FnScope ["_law_rulebook_here", "_law_name", "_law_lots", "_law_lot"] ["_law_rulebook_here", "_law_name"] (defScope sChkL) := ⟨rfl, rfl, rfl, by decide +kernel, rfl, by decide +kernel, by decide +kernel⟩
theorem ok_chkL {f : Addr} {fd : FuncData} (F : Fun K "_law_chokes" "_law_chokes" sChkL f fd) (CL : Cal P w K mg base 1 "_law_lots_of" ["_law_things"] (spLots2 K)) (CC : Cal P w K mg base 4 "_law_clean" ["_law_rulebook_here", "_law_struck"] (spCleanL K)) (CB : Cal P w K mg base 2 "_law_bearing" ["_law_rulebook_here"] (spBearing K)) (CLe : Cal P w K mg base 2 "_law_least_of" ["_law_lots"] (spLeastOf K)) : FnOk P w K mg base CX0 5 f fd ["_law_rulebook_here", "_law_name"] (spChkL K) := by
  refine F.ok scChkL (fun vs H Q E h => ?_) (fun cdv A outer s H vs Q E hr h => ?_)
  · obtain ⟨p, B, n, rfl, _⟩ := h
    rfl
  · obtain ⟨p, B, n, rfl, rp, ok, r4, kQ⟩ := h
    have nd := scChkL.nd
    have hr1 := hr.mono (by decide : 1 ≤ 4)
    have hr2 := hr.mono (by decide : 2 ≤ 4)
    refine ⟨_, pss_cons (ps_if (pt_cmpR op_notIn_seq (pv 1) (pe_cal CB hr2 rfl (pa_cons (pv 0) pa_nil)) (by rfl)) (pss_one (ps_ret (pe_lst pa_nil))) pss_nil)
      (pss_cons (ps_set (i := 2) nd rfl (Or.inl rfl) (pe_slice sl_list (pe_cal CL hr1 rfl (pa_cons (pe_ix ix_tup (pv 0) pe_int (fun _ _ => rfl)) pa_nil)) (po_some pe_int) po_none))
      (pss_one (ps_ret (pe_cal CLe hr2 rfl (pa_cons (pe_lc (own := [("_law_lot", 3)]) (g := gName 3) (tt := tTest (tOp (rIn K true) (tVar 1) (tCall (spCleanL K) [] E0 (tCons (tVar 0) (tCons (tVar 3) tNil))))) (te := tVar 3) rfl nd (pi_list (pv 2))
        (blkOk_by (own := [("_law_lot", 3)]) (N := ["_law_rulebook_here", "_law_name", "_law_lots", "_law_lot"]) (sc := defScope sChkL) (by decide +kernel)) (fun _ _ _ _ _ => pg_name (i := 3) nd rfl (Or.inl rfl))
        (fun _ _ _ _ _ => pts_one (pt_cmpR op_notIn_seq (pv 1) (pe_cal CC hr rfl (pa_cons (pv 0) (pa_cons (pv 3) pa_nil))) (by rfl))) (fun _ _ _ _ _ => pv 3)) pa_nil))))), ?_⟩
    refine ⟨_, rfl, _, rfl, p, B, rfl, rp, ok, fun bl H1 ls s1 nb hb pb => ?_⟩
    have eb : decide (n ∈ ls) = decide (n ∈ B.bear) := decide_eq_decide.mpr pb.mem_iff
    refine in_read (neg := true) (.inl hb) ⟨_, rfl, ?_⟩
    show if (!decide (n ∈ ls)) = true then _ else _
    rw [eb]
    refine ite2 (fun e => ?_) fun e => ?_
    · have hn : n ∉ B.bear := by simpa using e
      refine ⟨Nat.zero_le _, fun l nl => ?_⟩
      have s2 : Same H1 (upd H1 l (.lst [])) := same_new (Same.refl H1) nl
      refine kQ l _ [] (s1.trans s2) (s1.free nl) upd_same ?_
      unfold Bk.chk
      rw [if_neg hn]
      exact .nil
    · have hn : n ∈ B.bear := by simpa using e
      refine next_open ?_
      have rp1 := rp.same s1
      obtain ⟨pr, pk, ks, hp, hpr, hpk, rks⟩ := Bk.rp_rows rp1
      try dsimp only
      show tSeq _ _ _ [some (.ref p), some (.str n), none, none] H1
      refine ⟨_, rfl, p, _, 0, .ref pr, rfl, rfl, SqT.of hp, atI_nat (j := 0) rfl, pr, B.rows, rfl, hpr, r4, fun A' H2 ys0 s2 nA hA ry0 => ⟨_, rfl, A', ys0, rfl, SqL.of hA, fun u nu => ?_⟩⟩
      rw [drop_cut]
      have s3 : Same H2 (upd H2 u (.lst (ys0.drop 1))) := same_new (Same.refl H2) nu
      have h3 : upd H2 u (.lst (ys0.drop 1)) u = some (.lst (ys0.drop 1)) := upd_same
      generalize upd H2 u (.lst (ys0.drop 1)) = H3 at s3 h3
      obtain ⟨t, et, pt⟩ := sort_tail ok.rows.nd
      rw [et] at ry0
      obtain ⟨ys, ey, ry⟩ : ∃ ys, ys0.drop 1 = ys ∧ RpAll K H2 ys (t.map lotD) := by
        cases ry0 with
        | cons _ r => exact ⟨_, rfl, r⟩
      rw [ey] at h3
      have ry3 := RpAll.same s3 ry
      have s13 := s2.trans s3
      have lys : ys.length = t.length := by rw [ry.len, List.length_map]
      have l16 : t.length ≤ 16 := by
        rw [pt.length_eq]
        exact Nat.le_trans (List.length_filter_le _ _) (lots16 r4)
      have tin : ∀ l ∈ t, l ∈ lotsL B.rows ∧ l ≠ [] := fun l hl => by
        have := List.mem_filter.mp (pt.mem_iff.mp hl)
        exact ⟨this.1, of_decide_eq_true this.2⟩
      try dsimp only
      show tRet _ _ [some (.ref p), some (.str n), some (.ref u), none] H3
      refine ⟨_, rfl, u, rfl, ⟨_, SqL.of h3⟩, fun Dx nD => ?_⟩
      refine lc_filt (K := K) (walk_list (xs := ys)) t (fun l => !decide (n ∈ B.clean l)) lotD lys.symm lot_flat nD (by omega) (fun H' s => SqL.of (s _ _ h3)) ?_ ?_
      · rintro j l x H5 H4 R Q' hj hl s4 ⟨rfl, hx⟩ kR kQ'
        obtain ⟨l', hl', rx⟩ := at_of ry3 hx
        have en : l = l' := by rw [hl] at hl'; exact Option.some.inj hl'
        subst en
        have rx4 := rx.same s4
        obtain ⟨lt, rfl, hlt⟩ := lot_rp rx4
        refine ⟨rfl, _, rfl, _, rfl, _, rfl, p, lt, B, l, rfl, rp1.same (s13.trans s4), ok, .inr hlt, fun c H6 ls' s6 nc hc pc => ?_⟩
        have ec : decide (n ∈ ls') = decide (n ∈ B.clean l) := decide_eq_decide.mpr pc.mem_iff
        refine in_read (neg := true) (.inl hc) ⟨_, rfl, ?_⟩
        show if (!decide (n ∈ ls')) = true then _ else _
        rw [ec]
        refine ite2 (fun e1 => ?_) fun e1 => ?_
        · exact ⟨_, rfl, kQ' _ _ s6 e1 (rx4.same s6)⟩
        · exact kR _ s6 (by simpa using e1)
      · intro H4 zs s4 hD rz
        refine ⟨Dx, zs, t.filter (fun l => !decide (n ∈ B.clean l)), rfl, hD, rz, .inr fun l hl => (tin l (List.mem_filter.mp hl).1).2, fun l hl => lot_small ok r4 (tin l (List.mem_filter.mp hl).1).1, Nat.le_trans (List.length_filter_le _ _) l16, fun q H5 us s5 nq hq ru => ?_⟩
        have pf : (t.filter (fun l => !decide (n ∈ B.clean l))).Perm ((lotsL B.rows).filter (B.bad n)) := by
          have q := pt.filter (fun l => !decide (n ∈ B.clean l))
          rw [List.filter_filter] at q
          have e : (fun a : List Str => (!decide (n ∈ B.clean a)) && decide (a ≠ [])) = B.bad n := by
            funext a
            unfold Bk.bad
            rw [Bool.and_comm]
          rw [e] at q
          exact q
        rw [sortL_perm_eq (minL_perm pf)] at ru
        refine kQ q H5 us (((s1.trans s13).trans s4).trans s5) (((s1.trans s13).trans s4).free nq) hq ?_
        unfold Bk.chk
        rw [if_pos hn]
        exact ru
end
end Gy

namespace Gy
open PySem L2 PySem.Spec PyProof.Rows
/-! ### are_lots_right -/
theorem lots_fine {ls : List (List Str)} (h : ∀ l ∈ ls, (∀ t ∈ l, t ∈ menu) ∧ l.length ≤ 4) (l16 : ls.length ≤ 16) : (D.lst (ls.map lotD)).Fine 100 2 := by
  have q := FineL.of (ds := ls.map lotD) (n := 5) (m := 1) fun d hd => by
    obtain ⟨o, ho, rfl⟩ := List.mem_map.mp hd
    obtain ⟨om, o4⟩ := h o ho
    exact (fine_strs om).tup.mono (by omega) (by decide)
  rw [List.length_map] at q
  exact q.lst.mono (by omega) (by decide)
theorem sup_small {B : Bk} (ok : BOk B) (r4 : B.rows.length ≤ 4) (n : Str) : (∀ l ∈ B.sup n, (∀ t ∈ l, t ∈ menu) ∧ l.length ≤ 4) ∧ (B.sup n).length ≤ 16 :=
  ⟨fun l hl => lot_small ok r4 (mem_lots.mpr (sup_sub hl)), Nat.le_trans sup_len (by exact Nat.pow_le_pow_right (by decide : 0 < 2) r4)⟩
theorem chk_small {B : Bk} (ok : BOk B) (r4 : B.rows.length ≤ 4) (n : Str) : (∀ l ∈ B.chk n, (∀ t ∈ l, t ∈ menu) ∧ l.length ≤ 4) ∧ (B.chk n).length ≤ 16 :=
  ⟨fun l hl => lot_small ok r4 (mem_lots.mpr (chk_sub hl)), Nat.le_trans chk_len (by exact Nat.pow_le_pow_right (by decide : 0 < 2) r4)⟩
noncomputable def askD (B : Bk) (n : Str) : D := .lst [.lst ((B.sup n).map lotD), .lst ((B.chk n).map lotD)]
theorem ask_fine {B : Bk} (ok : BOk B) (r4 : B.rows.length ≤ 4) (n : Str) : (askD B n).Fine 300 3 := by
  obtain ⟨h1, h2⟩ := sup_small ok r4 n
  obtain ⟨h3, h4⟩ := chk_small ok r4 n
  exact (FineL.lst (.cons (lots_fine h1 h2) (.cons (lots_fine h3 h4) .nil))).mono (by omega) (by decide)
theorem able_fine {B : Bk} (ok : BOk B) (st : List Str) : (D.tup ((B.able st).map D.str)).Fine 100 1 := by
  have l3 := lsL_len (right := rAble B B.bear (B.clean st) st) ok
  exact (fine_strs (ls_menu ok (rAble B B.bear (B.clean st) st))).tup.mono (by show 1 + 1 * (lsL B _).length ≤ 100; omega) (by decide)
/-- the two told lists, led on -/
def TwoL (H : Hp) (T l1 l2 : Addr) (n : Nat) : Prop := H T = some (.lst [.ref l1, .ref l2]) ∧ ∀ l ∈ [l1, l2], ∃ xs, H l = some (.lst xs) ∧ xs.length ≤ n
theorem TwoL.put {H : Hp} {T l1 l2 l : Addr} {n m : Nat} {xs : List V} (h : TwoL H T l1 l2 n) (t1 : T ≠ l1) (t2 : T ≠ l2) (hl : l ∈ [l1, l2]) (hm : xs.length ≤ m) (hn : n ≤ m) : TwoL (upd H l (.lst xs)) T l1 l2 m := by
  have tl : T ≠ l := by
    simp only [List.mem_cons, List.not_mem_nil, or_false] at hl
    rcases hl with rfl | rfl
    · exact t1
    · exact t2
  refine ⟨by rw [upd_ne tl]; exact h.1, fun q hq => ?_⟩
  by_cases e : q = l
  · rw [e, upd_same]
    exact ⟨xs, rfl, hm⟩
  · obtain ⟨ys, hy, ly⟩ := h.2 q hq
    rw [upd_ne e]
    exact ⟨ys, hy, Nat.le_trans ly hn⟩
theorem TwoL.same {H H' : Hp} {T l1 l2 : Addr} {n : Nat} (h : TwoL H T l1 l2 n) (s : Same H H') : TwoL H' T l1 l2 n := ⟨s _ _ h.1, fun l hl => let ⟨xs, h1, h2⟩ := h.2 l hl; ⟨xs, s _ _ h1, h2⟩⟩
abbrev sALR : Stmt := top 52
def spALR (K : PySem.W.Frag) : Sp := fun vs H Q _ => ∃ (p : Addr) (B : Bk), vs = [.ref p] ∧ Rp K H (.ref p) B.d ∧ BOk B ∧ B.rows.length ≤ 4 ∧ ∀ H', Same H H' → Q (.bl true) H'
section
variable {P : Program} {w : World} {K : PySem.W.Frag} {mg : Str → Option Value} {base : Heap}
theorem scALR : FnScope ["_law_rulebook_here", "_law_kept", "_law_name", "_law_due", "_law_again", "_law_told", "_law_one", "_law_other", "_law_row", "_law_lots"] ["_law_rulebook_here"] (defScope sALR) := ⟨rfl, rfl, rfl, by decide +kernel, rfl, by decide +kernel, by decide +kernel⟩
theorem ok_ALR {f : Addr} {fd : FuncData} (F : Fun K "_law_are_lots_right" "_law_are_lots_right" sALR f fd) (zR : mg "repr" = none) (zs : mg "sorted" = none) (zr : mg "range" = none) (zt : mg "tuple" = none)
    (CK : Cal P w K mg base 1 "_law_kinds_of" ["_law_rulebook_here"] (spKindsOf K)) (CSL : Cal P w K mg base 3 "_law_supports" ["_law_rulebook_here", "_law_name"] (spSupL K)) (CCL : Cal P w K mg base 5 "_law_chokes" ["_law_rulebook_here", "_law_name"] (spChkL K)) (CAb : Cal P w K mg base 5 "_law_able" ["_law_rulebook_here", "_law_struck"] (spAbleL K))
    (PS : Cal P w K mg base 9 "least_supports" ["rulebook", "name"] (spSupP K)) (PC : Cal P w K mg base 9 "least_chokes" ["rulebook", "name"] (spChkP K)) (PR : Cal P w K mg base 10 "kinds_reached" ["rulebook", "row"] (spReach K)) (CA : CalG P w K mg base NoGuard 1 "_law_alike" ["_law_found", "_law_due"] (spAlikeX K)) :
    FnG NoGuardC P w K mg base 11 f fd ["_law_rulebook_here"] (spALR K) := by
  refine fn_ofG (c := true) F scALR (fun A h _ => h.2) (fun vs H Q E h => ?_) (fun cdv A outer s H vs Q E hG hr h => ?_)
  · obtain ⟨p, B, rfl, _⟩ := h
    rfl
  · obtain ⟨p, B, rfl, rp, ok, r4, kQ⟩ := h
    have nd := scALR.nd
    have hg : (A.deeper (envOfC "_law_are_lots_right" (defScope sALR) s.heap.objs.size f cdv)).guards = some [] := hG.1
    have hR : Room 10 (A.deeper (envOfC "_law_are_lots_right" (defScope sALR) s.heap.objs.size f cdv)) := ⟨hG.2, hr.dp, hr.un⟩
    have hR1 := hR.mono (by decide : 1 ≤ 10)
    have hR3 := hR.mono (by decide : 3 ≤ 10)
    have hR5 := hR.mono (by decide : 5 ≤ 10)
    have hR9 := hR.mono (by decide : 9 ≤ 10)
    have hr1 := hr.mono (by decide : 1 ≤ 10)
    have hu := hR.units
    have hz := sizeLine_eq
    refine ⟨_, pss_cons (ps_set (i := 1) nd rfl (Or.inl rfl) (pe_callB (call_reprD hg hu) (by rfl) zR (by decide +kernel) (pa_cons (pv 0) pa_nil)))
      (pss_cons (ps_for PassesOwn.never rfl (pi_keysF (pe_cal CK hR1 rfl (pa_cons (pv 0) pa_nil))) (pg_name (i := 2) nd rfl (Or.inl rfl))
        (pss_cons (ps_set (i := 3) nd rfl (Or.inl rfl) (pe_lst (pa_cons (pe_cal CSL hR3 rfl (pa_cons (pv 0) (pa_cons (pv 2) pa_nil))) (pa_cons (pe_cal CCL hR5 rfl (pa_cons (pv 0) (pa_cons (pv 2) pa_nil))) pa_nil))))
        (pss_one (ps_for PassesOwn.never rfl (pi_range1 (by rfl) zr (pa_cons pe_int pa_nil)) (pg_name (i := 4) nd rfl (Or.inl rfl))
          (pss_cons (ps_set (i := 5) nd rfl (Or.inl rfl) (pe_lst (pa_cons (pe_cal PS hR9 rfl (pa_cons (pv 0) (pa_cons (pv 2) pa_nil))) (pa_cons (pe_cal PC hR9 rfl (pa_cons (pv 0) (pa_cons (pv 2) pa_nil))) pa_nil))))
          (pss_cons (ps_if (pt_not (pt_val (pe_calG CA hr1 hg rfl (pa_cons (pv 5) (pa_cons (pv 3) pa_nil))))) (pss_one (ps_ret pe_bl)) pss_nil)
          (pss_cons (ps_for PassesOwn.never rfl (pi_list (pe_ix ix_list (pv 5) pe_int (fun _ _ => rfl))) (pg_name (i := 6) nd rfl (Or.inr rfl))
            (pss_one (ps_if (pt_cmpR (op_neD hu) (pe_lc (own := [("_law_other", 7)]) (g := gName 7) (tt := tTest (tOp (rEqD K) (tLc (iTup K (tVar 6)) (gName 8) (tTest (tOp (rIn K false) (tVar 8) (tVar 7))) (tVar 8) [8]) (tLst tNil))) (te := tVar 7) rfl nd (pi_list (pe_ix ix_list (pv 5) pe_int (fun _ _ => rfl)))
                (blkOk_by (own := [("_law_other", 7)]) (N := ["_law_rulebook_here", "_law_kept", "_law_name", "_law_due", "_law_again", "_law_told", "_law_one", "_law_other", "_law_row", "_law_lots"]) (sc := defScope sALR) (by decide +kernel)) (fun _ _ _ _ _ => pg_name (i := 7) nd rfl (Or.inr rfl))
                (fun _ _ _ _ _ => pts_one (pt_cmpR (op_eqD hu) (pe_lc (own := [("_law_row", 8)]) (g := gName 8) (tt := tTest (tOp (rIn K false) (tVar 8) (tVar 7))) (te := tVar 8) rfl nd (pi_tup (pv 6)) (blkOk_by (by rfl)) (fun _ _ _ _ _ => pg_name (i := 8) nd rfl (Or.inl rfl)) (fun _ _ _ _ _ => pts_one (pt_cmpR op_in_seq (pv 8) (pv 7) (by rfl))) (fun _ _ _ _ _ => pv 8)) (pe_lst pa_nil) (nomark _))) (fun _ _ _ _ _ => pv 7)) (pe_lst pa_nil) (nomark _))
              (pss_one (ps_ret pe_bl)) pss_nil)))
          (pss_one (ps_for PassesOwn.never rfl (pi_list (pv 5)) (pg_name (i := 9) nd rfl (Or.inl rfl))
            (pss_cons (ps_expr (by exact (pe_bm0 PySem.F.plainAttrs_list PySem.F.slot_list_reverse PySem.F.type_list_reverse mt_reverse (pv 9))))
            (pss_one (ps_expr (by exact (pe_bm PySem.F.plainAttrs_list PySem.F.slot_list_append PySem.F.type_list_append mt_append (pv 9) (pa_cons (pe_tup pa_nil) pa_nil)))))))))))))))
      (pss_cons (ps_for PassesOwn.never rfl (pi_tup (pe_ix ix_tup (pv 0) pe_int (fun _ _ => rfl))) (pg_name (i := 8) nd rfl (Or.inl rfl))
        (pss_one (ps_if (pt_not (pt_val (pe_calG CA hr1 hg rfl (pa_cons (pe_cal PR hR rfl (pa_cons (pv 0) (pa_cons (pv 8) pa_nil))) (pa_cons (pe_tupleOf (by rfl) zt (pe_callB cr_sortedS (by rfl) zs (by decide +kernel) (pa_cons (pe_cal CAb hR5 rfl (pa_cons (pv 0) (pa_cons (pe_tup (pa_cons (pv 8) pa_nil)) pa_nil))) pa_nil))) pa_nil))))) (pss_one (ps_ret pe_bl)) pss_nil)))
      (pss_one (ps_ret (pe_cmpR op_eq (pe_callB (call_reprD hg hu) (by rfl) zR (by decide +kernel) (pa_cons (pv 0) pa_nil)) (pv 1) (nomark _)))))), ?_⟩
    have lb := ok.len
    have fb := ok.fine.show (by decide) (by decide)
    have lnm : B.names.length = B.kinds.length := by unfold Bk.names; rw [List.length_map]
    refine ⟨_, rfl, .ref p, B.d, rfl, rp, fb.1, fb.2.1, fb.2.2, ?_⟩
    generalize hkept : B.d.shown = kept
    try dsimp only
    show tSeq _ _ _ [some (.ref p), some (.str kept), none, none, none, none, none, none, none, none] H
    refine ⟨_, rfl, p, B, rfl, rp, ok, fun d H1 ts s1 nd1 hd rts => ⟨d, _, rfl, hd, fun od => ?_⟩⟩
    have sHL : Same H (upd H1 d (.frz od (.dK (keyed B.names ts)))) := same_put s1 nd1
    have hdL : upd H1 d (.frz od (.dK (keyed B.names ts))) d = some (.frz od (.dK (keyed B.names ts))) := upd_same
    generalize upd H1 d (.frz od (.dK (keyed B.names ts))) = HL at sHL hdL
    refine for_it (walk_keys (kvs := keyed B.names ts)) (fun j σ' H' => (∃ x2 x3 x4 x5 x6 x9, σ' = [some (.ref p), some (.str kept), x2, x3, x4, x5, x6, none, none, x9]) ∧ Same HL H')
      ⟨⟨_, _, _, _, _, _, rfl⟩, Same.refl HL⟩ (fun j σ' H' _ z => z.2 _ _ hdL) ?_ ?_
    · rintro j x σ' HA' HA hj ⟨⟨x2, x3, x4, x5, x6, x9, rfl⟩, sA⟩ ⟨rfl, ky, v, hkv, rfl⟩
      obtain ⟨nm, hnm, rfl⟩ := keyed_of hkv
      have s0A := sHL.trans sA
      try dsimp only
      show tSeq _ _ _ [some (.ref p), some (.str kept), some (.str nm), x3, x4, x5, x6, none, none, x9] HA
      refine ⟨_, rfl, _, rfl, p, B, nm, rfl, rp.same s0A, ok, r4, fun q1 H2 us1 s2 nq1 hq1 ru1 => ⟨_, rfl, _, rfl, p, B, nm, rfl, rp.same (s0A.trans s2), ok, r4, fun q2 H3 us2 s3 nq2 hq2 ru2 => ⟨by show 2 ≤ sizeLine; decide, fun Du nDu => ?_⟩⟩⟩
      have s4 : Same H3 (upd H3 Du (.lst [.ref q1, .ref q2])) := same_new (Same.refl H3) nDu
      have h4 : upd H3 Du (.lst [.ref q1, .ref q2]) Du = some (.lst [.ref q1, .ref q2]) := upd_same
      generalize upd H3 Du (.lst [.ref q1, .ref q2]) = H4 at s4 h4
      have rDu : Rp K H4 (.ref Du) (askD B nm) := .lst h4 (.cons (.lst ((s3.trans s4) _ _ hq1) (RpAll.same (s3.trans s4) ru1)) (.cons (.lst (s4 _ _ hq2) (RpAll.same s4 ru2)) .nil))
      have sA4 := (s2.trans s3).trans s4
      have s04 := s0A.trans sA4
      try dsimp only
      show tFor _ _ _ _ [some (.ref p), some (.str kept), some (.str nm), some (.ref Du), x4, x5, x6, none, none, x9] H4
      refine ⟨2, rfl, by decide, by decide, for_it (walk_range (lo := 0) (n := (2 : Int).toNat)) (fun i σ' H' => (∃ x4 x5 x6 x9, σ' = [some (.ref p), some (.str kept), some (.str nm), some (.ref Du), x4, x5, x6, none, none, x9]) ∧ Same H4 H') ⟨⟨_, _, _, _, rfl⟩, Same.refl H4⟩ (fun _ _ _ _ _ => trivial) ?_ ?_⟩
      · rintro i x σ' HB' HB hi ⟨⟨x4, x5, x6, x9, rfl⟩, sB⟩ ⟨rfl, rfl⟩
        have s0B := s04.trans sB
        try dsimp only
        show tSeq _ _ _ [some (.ref p), some (.str kept), some (.str nm), some (.ref Du), some (.int (0 + (i : Int))), x5, x6, none, none, x9] HB
        refine ⟨_, rfl, _, rfl, p, B, nm, rfl, rp.same s0B, ok, r4, fun l1 H5 vs1 s5 nl1 hl1 rv1 => ⟨_, rfl, _, rfl, p, B, nm, rfl, rp.same (s0B.trans s5), ok, r4, fun l2 H6 vs2 s6 nl2 hl2 rv2 => ⟨by show 2 ≤ sizeLine; decide, fun T nT => ?_⟩⟩⟩
        have T1 : T ≠ l1 := fun z => by rw [z, s6 _ _ hl1] at nT; cases nT
        have T2 : T ≠ l2 := fun z => by rw [z, hl2] at nT; cases nT
        have s7 : Same H6 (upd H6 T (.lst [.ref l1, .ref l2])) := same_new (Same.refl H6) nT
        have h7 : upd H6 T (.lst [.ref l1, .ref l2]) T = some (.lst [.ref l1, .ref l2]) := upd_same
        generalize upd H6 T (.lst [.ref l1, .ref l2]) = H7 at s7 h7
        have s57 := s6.trans s7
        have hl1' := s57 _ _ hl1
        have hl2' := s7 _ _ hl2
        have rv1' := RpAll.same s57 rv1
        have rv2' := RpAll.same s7 rv2
        have sB7 := s5.trans s57
        have rT : Rp K H7 (.ref T) (askD B nm) := .lst h7 (.cons (.lst hl1' rv1') (.cons (.lst hl2' rv2') .nil))
        obtain ⟨sm1, sm2⟩ := sup_small ok r4 nm
        obtain ⟨cm1, cm2⟩ := chk_small ok r4 nm
        have lv1 : vs1.length ≤ 16 := by rw [rv1.len, List.length_map]; exact sm2
        have lv2 : vs2.length ≤ 16 := by rw [rv2.len, List.length_map]; exact cm2
        try dsimp only
        show tSeq _ _ _ [some (.ref p), some (.str kept), some (.str nm), some (.ref Du), some (.int (0 + (i : Int))), some (.ref T), x6, none, none, x9] H7
        refine ⟨_, rfl, _, rfl, _, _, rfl, AlikeX.of rT (rDu.same (sB.trans sB7)) (ask_fine ok r4 nm) (by decide) (by decide), true, rfl, iteF ?_⟩
        refine next_open ?_
        try dsimp only
        show tSeq _ _ _ [some (.ref p), some (.str kept), some (.str nm), some (.ref Du), some (.int (0 + (i : Int))), some (.ref T), x6, none, none, x9] H7
        refine ⟨_, rfl, T, _, 0, .ref l1, rfl, rfl, SqL.of h7, atI_nat (j := 0) rfl, l1, rfl, ⟨_, SqL.of hl1'⟩, for_list (xs := vs1) (fun m σ' H' => (∃ x6, σ' = [some (.ref p), some (.str kept), some (.str nm), some (.ref Du), some (.int (0 + (i : Int))), some (.ref T), x6, none, none, x9]) ∧ Same H7 H') ⟨⟨_, rfl⟩, Same.refl H7⟩ (fun m σ' H' _ z => SqL.of (z.2 _ _ hl1')) ?_ ?_⟩
        · rintro m x σ' H8 hx ⟨⟨x6, rfl⟩, s8⟩
          obtain ⟨one, hone, rone⟩ := at_of rv1' hx
          obtain ⟨ot, rfl, hot⟩ := lot_rp (rone.same s8)
          have oin : one ∈ B.sup nm := List.mem_of_getElem? hone
          obtain ⟨om, o4⟩ := sm1 one oin
          have hT8 := s8 _ _ h7
          have hl28 := s8 _ _ hl2'
          have rv28 := RpAll.same s8 rv2'
          try dsimp only
          show tIfS _ _ _ _ [some (.ref p), some (.str kept), some (.str nm), some (.ref Du), some (.int (0 + (i : Int))), some (.ref T), some (.ref ot), none, none, x9] H8
          refine ⟨_, rfl, T, _, 1, .ref l2, rfl, rfl, SqL.of hT8, atI_nat (j := 1) rfl, l2, rfl, ⟨_, SqL.of hl28⟩, fun Dx nD => ?_⟩
          have lvc : vs2.length = (B.chk nm).length := by rw [rv2.len, List.length_map]
          refine lc_filt (K := K) (walk_list (xs := vs2)) (B.chk nm) (fun c => !decide ((one.filter fun r => decide (r ∈ c)) ≠ [])) lotD lvc.symm lot_flat nD (by omega) (fun H' s => SqL.of (s _ _ hl28)) ?_ ?_
          · rintro jj c x H9 H10 R Q' hjj hc s9 ⟨rfl, hx'⟩ kR kQ'
            obtain ⟨c', hc', rc⟩ := at_of rv28 hx'
            have en : c = c' := by rw [hc] at hc'; exact Option.some.inj hc'
            subst en
            have rc9 := rc.same s9
            obtain ⟨ct, rfl, hct⟩ := lot_rp rc9
            have hot9 := s9 _ _ hot
            refine ⟨rfl, _, rfl, ot, rfl, ⟨_, SqT.of hot9⟩, fun Dy nDy => ?_⟩
            refine lc_filt (K := K) (walk_tup (xs := one.map V.str)) one (fun r => decide (r ∈ c)) D.str (by rw [List.length_map]) (fun _ => rfl) nDy (by rw [List.length_map]; omega) (fun H' s => SqT.of (s _ _ hot9)) ?_ ?_
            · rintro kk r v H11 H12 R2 Q2 hkk hr' s11 ⟨rfl, hx2⟩ kR2 kQ2
              have ex : v = .str r := by
                rw [List.getElem?_map, hr'] at hx2
                exact (Option.some.inj hx2).symm
              subst ex
              refine ⟨rfl, _, rfl, _, rfl, in_read (neg := false) (.inr (s11 _ _ hct)) ⟨_, rfl, ?_⟩⟩
              show if decide (r ∈ c) = true then _ else _
              refine ite2 (fun e => ?_) fun e => ?_
              · exact ⟨_, rfl, kQ2 _ _ (Same.refl _) e (.str _)⟩
              · exact kR2 _ (Same.refl _) (by simpa using e)
            · intro H11 ys s11 hDy r
              have e := rp_strs r
              subst e
              refine ⟨Nat.zero_le _, fun e ne => ?_⟩
              have s12 : Same H11 (upd H11 e (.lst [])) := same_new (Same.refl H11) ne
              have h12 : upd H11 e (.lst []) e = some (.lst []) := upd_same
              generalize upd H11 e (.lst []) = H12 at s12 h12
              obtain ⟨d1, d2, d3⟩ := strs_dp (K := K) (s12 _ _ hDy) fun t ht => om t (List.mem_filter.mp ht).1
              refine ⟨_, .list [], d1, .lst (SqL.of h12) .nil, d2, rfl, ?_⟩
              have ev : PyData.eqv (.list (D.pyAll ((one.filter fun r => decide (r ∈ c)).map D.str))) (.list []) = !decide ((one.filter fun r => decide (r ∈ c)) ≠ []) := by
                rw [← d3, Bool.not_not]
              rw [ev]
              have s9_12 := s11.trans s12
              refine ⟨_, rfl, ite2 (fun e => ?_) fun e => ?_⟩
              · exact ⟨_, rfl, kQ' _ _ s9_12 e (rc9.same s9_12)⟩
              · exact kR _ s9_12 (by simpa using e)
          · intro H9 zs s9 hD rz
            have none : (B.chk nm).filter (fun c => !decide ((one.filter fun r => decide (r ∈ c)) ≠ [])) = [] := List.filter_eq_nil_iff.mpr fun c hc z => by
              obtain ⟨r, hr', hr2⟩ := meet oin hc
              have : (one.filter fun r => decide (r ∈ c)) ≠ [] := fun y => by
                have := List.filter_eq_nil_iff.mp y r hr'
                exact this (decide_eq_true hr2)
              rw [decide_eq_true this] at z
              cases z
            rw [none] at rz
            refine ⟨Nat.zero_le _, fun e ne => ?_⟩
            have s10 : Same H9 (upd H9 e (.lst [])) := same_new (Same.refl H9) ne
            have h10 : upd H9 e (.lst []) e = some (.lst []) := upd_same
            generalize upd H9 e (.lst []) = H10 at s10 h10
            cases rz
            refine ⟨.list [], .list [], .lst (SqL.of (s10 _ _ hD)) .nil, .lst (SqL.of h10) .nil, rfl, rfl, ?_⟩
            refine ⟨_, rfl, iteF ?_⟩
            exact ⟨⟨_, rfl⟩, (s8.trans s9).trans s10⟩
        · rintro σ' H8 ⟨⟨x6, rfl⟩, s8⟩
          have two : TwoL H8 T l1 l2 20 := by
            refine TwoL.same ⟨h7, fun l hl => ?_⟩ s8
            simp only [List.mem_cons, List.not_mem_nil, or_false] at hl
            rcases hl with rfl | rfl
            · exact ⟨_, hl1', by omega⟩
            · exact ⟨_, hl2', by omega⟩
          have sB8 := sB7.trans s8
          have nB1 : HB l1 = none := nl1
          have nB2 : HB l2 = none := s5.free nl2
          try dsimp only
          show tFor _ _ _ _ [some (.ref p), some (.str kept), some (.str nm), some (.ref Du), some (.int (0 + (i : Int))), some (.ref T), x6, none, none, x9] H8
          refine ⟨_, rfl, T, rfl, ⟨_, SqL.of two.1⟩, for_list (xs := [.ref l1, .ref l2]) (fun m σ' H' => (∃ x9, σ' = [some (.ref p), some (.str kept), some (.str nm), some (.ref Du), some (.int (0 + (i : Int))), some (.ref T), x6, none, none, x9]) ∧ Same HB H' ∧ TwoL H' T l1 l2 (20 + m)) ⟨⟨_, rfl⟩, sB8, two⟩ (fun m σ' H' _ z => SqL.of z.2.2.1) ?_ ?_⟩
          · rintro m x σ' H9 hx ⟨⟨x9, rfl⟩, sB9, two9⟩
            obtain ⟨l, hlm, rfl⟩ : ∃ l, l ∈ [l1, l2] ∧ x = .ref l := by
              have := List.mem_of_getElem? hx
              simp only [List.mem_cons, List.not_mem_nil, or_false] at this
              rcases this with rfl | rfl
              · exact ⟨l1, by simp, rfl⟩
              · exact ⟨l2, by simp, rfl⟩
            have m2 : m < 2 := (List.getElem?_eq_some_iff.mp hx).1
            have nBl : HB l = none := by
              simp only [List.mem_cons, List.not_mem_nil, or_false] at hlm
              rcases hlm with rfl | rfl
              · exact nB1
              · exact nB2
            obtain ⟨xs, hxs, lxs⟩ := two9.2 l hlm
            refine ⟨_, rfl, .inl ⟨rfl, _, SqL.of hxs⟩, l, xs, rfl, rfl, hxs, ?_⟩
            have two10 := two9.put T1 T2 hlm (xs := xs.reverse) (m := 20 + m) (by rw [List.length_reverse]; exact lxs) (Nat.le_refl _)
            have sB10 := same_put (o := HO.lst xs.reverse) sB9 nBl
            have h10 : upd H9 l (.lst xs.reverse) l = some (.lst xs.reverse) := upd_same
            generalize upd H9 l (.lst xs.reverse) = H10 at two10 sB10 h10
            refine ⟨_, rfl, .inl ⟨rfl, _, SqL.of h10⟩, Nat.zero_le _, fun e ne => ?_⟩
            have s11 : Same H10 (upd H10 e (.tup [])) := same_new (Same.refl H10) ne
            have two11 := two10.same s11
            have sB11 := sB10.trans s11
            have h11 := s11 _ _ h10
            generalize upd H10 e (.tup []) = H11 at two11 sB11 h11
            refine ⟨l, xs.reverse, .ref e, rfl, rfl, h11, by rw [List.length_reverse]; omega, ⟨_, rfl⟩, same_put sB11 nBl, ?_⟩
            exact two11.put T1 T2 hlm (by rw [List.length_append, List.length_reverse, List.length_singleton]; omega) (by omega)
          · rintro σ' H9 ⟨⟨x9, rfl⟩, sB9, two9⟩
            exact ⟨⟨_, _, _, _, rfl⟩, sB.trans sB9⟩
      · rintro σ' HB ⟨⟨x4, x5, x6, x9, rfl⟩, sB⟩
        exact ⟨⟨_, _, _, _, _, _, rfl⟩, sA.trans (sA4.trans sB)⟩
    · rintro σ' HA ⟨⟨x2, x3, x4, x5, x6, x9, rfl⟩, sA⟩
      have s0A := sHL.trans sA
      obtain ⟨pr, pk, ks, hp, hpr, hpk, rks⟩ := Bk.rp_rows (rp.same s0A)
      try dsimp only
      show tSeq _ _ _ [some (.ref p), some (.str kept), x2, x3, x4, x5, x6, none, none, x9] HA
      refine ⟨_, rfl, p, _, 0, .ref pr, rfl, rfl, SqT.of hp, atI_nat (j := 0) rfl, pr, rfl, ⟨_, SqT.of hpr⟩, for_tup (xs := B.rows.map V.str) (fun i σ' H' => (∃ x8, σ' = [some (.ref p), some (.str kept), x2, x3, x4, x5, x6, none, x8, x9]) ∧ Same HA H') ⟨⟨_, rfl⟩, Same.refl HA⟩ (fun i σ' H' _ z => SqT.of (z.2 _ _ hpr)) ?_ ?_⟩
      · rintro i x σ' H2 hx ⟨⟨x8, rfl⟩, s2⟩
        obtain ⟨r, hr', rfl⟩ : ∃ r, B.rows[i]? = some r ∧ x = V.str r := by
          rw [List.getElem?_map] at hx
          cases z : B.rows[i]? with
          | none => rw [z] at hx; cases hx
          | some th => rw [z] at hx; exact ⟨th, rfl, (Option.some.inj hx).symm⟩
        have s02 := s0A.trans s2
        try dsimp only
        show tIfS _ _ _ _ [some (.ref p), some (.str kept), x2, x3, x4, x5, x6, none, some (.str r), x9] H2
        refine ⟨_, rfl, _, rfl, p, B, r, rfl, rp.same s02, ok, fun t1 H3 s3 nt1 ht1 => ⟨_, rfl, _, rfl, by show 1 ≤ sizeLine; decide, fun S nS => ?_⟩⟩
        have s4 : Same H3 (upd H3 S (.tup [.str r])) := same_new (Same.refl H3) nS
        have h4 : upd H3 S (.tup [.str r]) S = some (.tup (([r] : List Str).map V.str)) := upd_same
        generalize upd H3 S (.tup [.str r]) = H4 at s4 h4
        have s34 := s3.trans s4
        refine ⟨p, S, B, [r], rfl, rp.same (s02.trans s34), ok, .inr h4, fun la H5 lb s5 nla hla pla => ⟨la, lb, rfl, SqL.of hla, by have : lb.length ≤ 15 := (by rw [pla.length_eq]; exact lsL_len ok); omega, fun ws q pw sw nq => .inl ⟨q, _, rfl, SqL.of upd_same, fun t2 nt2 => ?_⟩⟩⟩
        have e1 : ws = B.able [r] := sorted_one sw (lsL_sorted ok) (pw.trans pla)
        subst e1
        have s6 : Same H5 (upd H5 q (.lst ((B.able [r]).map V.str))) := same_new (Same.refl H5) nq
        generalize upd H5 q (.lst ((B.able [r]).map V.str)) = H6 at s6 nt2
        have s7 : Same H6 (upd H6 t2 (.tup ((B.able [r]).map V.str))) := same_new (Same.refl H6) nt2
        have ht2 : upd H6 t2 (.tup ((B.able [r]).map V.str)) t2 = some (.tup ((B.able [r]).map V.str)) := upd_same
        generalize upd H6 t2 (.tup ((B.able [r]).map V.str)) = H7 at s7 ht2
        have s37 := ((s4.trans s5).trans s6).trans s7
        refine ⟨_, _, rfl, AlikeX.of (.tup (s37 _ _ ht1) (rp_of_strs _)) (.tup ht2 (rp_of_strs _)) (able_fine ok [r]) (by decide) (by decide), true, rfl, iteF ?_⟩
        exact ⟨⟨_, rfl⟩, s2.trans (s3.trans s37)⟩
      · rintro σ' H2 ⟨⟨x8, rfl⟩, s2⟩
        have s02 := s0A.trans s2
        refine ⟨_, rfl, .ref p, B.d, rfl, rp.same s02, fb.1, fb.2.1, fb.2.2, _, rfl, rfl, ?_⟩
        rw [hkept, decide_eq_true rfl]
        exact kQ H2 s02
end
end Gy

namespace Gy
open PySem L2 PySem.Spec PyProof.Rows
/-! ### the law -/
abbrev sLaw : Stmt := top 53
def spLaw (K : PySem.W.Frag) : Sp := fun vs H Q _ => ∃ (a : Addr) (ns : List Int), vs = [.ref a] ∧ SqL K H a (ns.map V.int) ∧ ∀ H', Q (.bl true) H'
section
variable {P : Program} {w : World} {K : PySem.W.Frag} {mg : Str → Option Value} {base : Heap}
theorem scLaw : FnScope ["_law_script", "_law_bag_here", "_law_asked", "_law_turn", "_law_rulebook_here"] ["_law_script"] (defScope sLaw) := ⟨rfl, rfl, rfl, by decide +kernel, rfl, by decide +kernel, by decide +kernel⟩
theorem ok_law {f : Addr} {fd : FuncData} (F : Fun K "law" "law" sLaw f fd) (zr : mg "range" = none) (CB : Cal P w K mg base 1 "_law_bag" ["_law_script"] (spBag K)) (CR : Cal P w K mg base 7 "_law_rulebook" ["_law_bag_here", "_law_kinds"] (spRule K)) (CY : Cal P w K mg base 6 "_law_any_rulebook" ["_law_bag_here", "_law_kinds", "_law_rows"] (spAny K)) (CM : Cal P w K mg base 2 "_law_mixed" ["_law_bag_here", "_law_things"] spMixed)
    (CAL : CalG P w K mg base NoGuardC 11 "_law_are_lots_right" ["_law_rulebook_here"] (spALR K)) :
    FnG NoGuardC P w K mg base 12 f fd ["_law_script"] (spLaw K) := by
  refine fn_ofG (c := true) F scLaw (fun A h _ => h.2) (fun vs H Q E h => ?_) (fun cdv A outer s H vs Q E hG hr h => ?_)
  · obtain ⟨a, ns, rfl, _⟩ := h
    rfl
  · obtain ⟨a, ns, rfl, hS, k⟩ := h
    have nd := scLaw.nd
    have hR : Room 11 (A.deeper (envOfC "law" (defScope sLaw) s.heap.objs.size f cdv)) := ⟨hG.2, hr.dp, hr.un⟩
    have hR1 := hR.mono (by decide : 1 ≤ 11)
    have hR2 := hR.mono (by decide : 2 ≤ 11)
    have hR6 := hR.mono (by decide : 6 ≤ 11)
    have hR7 := hR.mono (by decide : 7 ≤ 11)
    have hGC : NoGuardC (A.deeper (envOfC "law" (defScope sLaw) s.heap.objs.size f cdv)) := hG
    have hz := sizeLine_eq
    refine ⟨_, pss_cons (ps_par (i := 1) (j := 2) rfl nd rfl rfl (by decide) rfl rfl (pa_cons (pe_cal CB hR1 rfl (pa_cons (pv 0) pa_nil)) (pa_cons (pe_lst pa_nil) pa_nil)) (by rfl))
      (pss_cons (ps_for PassesOwn.never rfl (pi_range1 (by rfl) zr (pa_cons pe_int pa_nil)) (pg_name (i := 3) nd rfl (Or.inl rfl))
        (pss_cons (ps_expr (by exact (pe_bm PySem.F.plainAttrs_list PySem.F.slot_list_append PySem.F.type_list_append mt_append (pv 2) (pa_cons (pe_ix ix_tup (pe_cal CR hR7 rfl (pa_cons (pv 1) (pa_cons pe_int pa_nil))) pe_int (fun _ _ => rfl)) pa_nil))))
        (pss_one (ps_expr (by exact (pe_bm PySem.F.plainAttrs_list PySem.F.slot_list_append PySem.F.type_list_append mt_append (pv 2) (pa_cons (pe_cal CY hR6 rfl (pa_cons (pv 1) (pa_cons pe_int (pa_cons pe_int pa_nil)))) pa_nil)))))))
      (pss_cons (ps_for PassesOwn.never rfl (pi_list (pe_op op_cat (pe_cal CM hR2 rfl (pa_cons (pv 1) (pa_cons (pv 2) pa_nil))) (pe_slice sl_list (pv 2) po_none (po_some pe_int)))) (pg_name (i := 4) nd rfl (Or.inl rfl))
        (pss_one (ps_if (pt_not (pt_val (pe_calG CAL hr hGC rfl (pa_cons (pv 4) pa_nil)))) (pss_one (ps_ret pe_bl)) pss_nil)))
      (pss_one (ps_ret pe_bl)))), ?_⟩
    refine ⟨_, rfl, a, ns, rfl, hS, fun H1 b s1 nb ⟨c, B1⟩ => ⟨Nat.zero_le _, fun L nL => ⟨_, _, rfl, ?_⟩⟩⟩
    have Lb : L ≠ b := ne_at nL B1.hbs
    have Lc : L ≠ c := ne_at nL B1.hcs
    have s2 : Same H1 (upd H1 L (.lst [])) := same_new (Same.refl H1) nL
    have h2 : upd H1 L (.lst []) L = some (.lst []) := upd_same
    generalize upd H1 L (.lst []) = H2 at s2 h2
    have B2 := B1.same s2
    try dsimp only
    show tSeq _ _ _ [some (.ref a), some (.ref b), some (.ref L), none, none] H2
    refine ⟨3, rfl, by decide, by decide, for_it (walk_range (lo := 0) (n := (3 : Int).toNat)) (fun i σ' H' => (∃ x3 x4, σ' = [some (.ref a), some (.ref b), some (.ref L), x3, x4]) ∧ BagC c H' b ∧ ∃ ys as, H' L = some (.lst ys) ∧ RpAll K H' ys (as.map Bk.d) ∧ (∀ x ∈ as, BOk x ∧ x.rows.length ≤ 4) ∧ as.length = 2 * i)
      ⟨⟨_, _, rfl⟩, B2, [], [], h2, .nil, (fun x m => absurd m List.not_mem_nil), rfl⟩ (fun _ _ _ _ _ => trivial) ?_ ?_⟩
    · rintro i x σ' H3' H3 hi ⟨⟨x3, x4, rfl⟩, B3, ys, as, hL, ry, oka, las⟩ ⟨rfl, rfl⟩
      have i3 : i < 3 := hi
      have ly : ys.length = 2 * i := by rw [ry.len, List.length_map, las]
      refine ⟨_, rfl, .inl ⟨rfl, _, SqL.of hL⟩, _, rfl, b, c, 5, rfl, by decide, by decide, B3, fun t p q H4 B ss e4 B4 nt ht rp ok sm hq sk => ⟨t, _, 0, .ref p, rfl, rfl, SqT.of ht, atI_nat (j := 0) rfl, ?_⟩⟩
      have T34 := B3.tups e4
      have hL4 := e4 L _ Lb hL
      have ry4 := ry.tups T34 (flat_map bk_flat _)
      refine ⟨L, ys, .ref p, rfl, rfl, hL4, by omega, ?_⟩
      have T45 : Tups H4 (upd H4 L (.lst (ys ++ [.ref p]))) := Tups.put hL4
      have hL5 : upd H4 L (.lst (ys ++ [.ref p])) L = some (.lst (ys ++ [.ref p])) := upd_same
      have B5 : BagC c (upd H4 L (.lst (ys ++ [.ref p]))) b := B4.put Lb Lc
      generalize upd H4 L (.lst (ys ++ [.ref p])) = H5 at T45 hL5 B5
      have ry5 : RpAll K H5 (ys ++ [.ref p]) ((as ++ [B]).map Bk.d) := by
        rw [List.map_append]
        exact (ry4.tups T45 (flat_map bk_flat _)).append (.cons (rp.tups T45 (bk_flat B)) .nil)
      refine ⟨_, rfl, .inl ⟨rfl, _, SqL.of hL5⟩, _, rfl, b, c, 5, 4, rfl, by decide, by decide, by decide, by decide, B5, fun p2 H6 B' e6 B6 np2 rp2 ok2 sm2 => ?_⟩
      have T56 := B5.tups e6
      have hL6 := e6 L _ Lb hL5
      have ry6 := ry5.tups T56 (flat_map bk_flat _)
      refine ⟨L, _, .ref p2, rfl, rfl, hL6, by rw [List.length_append, List.length_singleton]; omega, ?_⟩
      have T67 : Tups H6 (upd H6 L (.lst (ys ++ [.ref p] ++ [.ref p2]))) := Tups.put hL6
      refine ⟨⟨_, _, rfl⟩, B6.put Lb Lc, _, as ++ [B] ++ [B'], upd_same, ?_, fun x hx => ?_, by rw [List.length_append, List.length_append, List.length_singleton, List.length_singleton]; omega⟩
      · rw [List.map_append]
        exact (ry6.tups T67 (flat_map bk_flat _)).append (.cons (rp2.tups T67 (bk_flat B')) .nil)
      · rcases List.mem_append.mp hx with z | z
        · rcases List.mem_append.mp z with z | z
          · exact oka x z
          · rw [List.mem_singleton.mp z]; exact ⟨ok, Nat.le_succ_of_le sm.2⟩
        · rw [List.mem_singleton.mp z]
          exact ⟨ok2, sm2.2⟩
    · rintro σ' H3 ⟨⟨x3, x4, rfl⟩, B3, ys, as, hL, ry, oka, las⟩
      have las' : as.length = 6 := las
      have ly : ys.length = 6 := by rw [ry.len, List.length_map, las']
      refine ⟨_, rfl, _, rfl, b, c, L, ys, rfl, Lb, .inl hL, by omega, B3, fun pm H4 zs e4 B4 nm hm perm => ?_⟩
      have T34 := B3.tups e4
      have hL4 := e4 L _ Lb hL
      have lz : zs.length = 6 := by rw [perm.length_eq, ly]
      refine ⟨_, rfl, _, rfl, L, ys, rfl, SqL.of hL4, fun q nq => ?_⟩
      have ec : cutV ys none (some 1) = ys.take 1 := cut_take ys 1
      rw [ec]
      have s5 : Same H4 (upd H4 q (.lst (ys.take 1))) := same_new (Same.refl H4) nq
      have h5 : upd H4 q (.lst (ys.take 1)) q = some (.lst (ys.take 1)) := upd_same
      generalize upd H4 q (.lst (ys.take 1)) = H5 at s5 h5
      refine ⟨pm, q, zs, ys.take 1, rfl, rfl, s5 _ _ hm, h5, by rw [List.length_take]; omega, fun u nu => ?_⟩
      have s6 : Same H5 (upd H5 u (.lst (zs ++ ys.take 1))) := same_new (Same.refl H5) nu
      have h6 : upd H5 u (.lst (zs ++ ys.take 1)) u = some (.lst (zs ++ ys.take 1)) := upd_same
      generalize upd H5 u (.lst (zs ++ ys.take 1)) = H6 at s6 h6
      have T36 := (T34.trans (Tups.same s5)).trans (Tups.same s6)
      have ry6 := ry.tups T36 (flat_map bk_flat _)
      refine ⟨u, rfl, ⟨_, SqL.of h6⟩, for_list (xs := zs ++ ys.take 1) (fun i σ' H' => (∃ x4, σ' = [some (.ref a), some (.ref b), some (.ref L), x3, x4]) ∧ Same H6 H') ⟨⟨_, rfl⟩, Same.refl H6⟩ (fun i σ' H' _ z => SqL.of (z.2 _ _ h6)) ?_ ?_⟩
      · rintro i x σ' H' hx ⟨⟨x4, rfl⟩, s'⟩
        have hx' : x ∈ ys := by
          rcases List.mem_append.mp (List.mem_of_getElem? hx) with z | z
          · exact perm.mem_iff.mp z
          · exact List.mem_of_mem_take z
        obtain ⟨j, hj⟩ := List.getElem?_of_mem hx'
        obtain ⟨B, hB, rB⟩ := at_of ry6 hj
        obtain ⟨ok, r4⟩ := oka B (List.mem_of_getElem? hB)
        have rB' := rB.same s'
        have rB'' := rB'
        unfold Bk.d at rB''
        cases rB'' with
        | @tup p _ _ e r =>
          exact ⟨_, rfl, p, B, rfl, rB', ok, r4, fun H7 s7 => ⟨true, rfl, iteF ⟨⟨_, rfl⟩, s'.trans s7⟩⟩⟩
      · rintro σ' H' ⟨⟨x4, rfl⟩, s'⟩
        exact k H'
end
end Gy

namespace Gy
open PySem L2 PySem.Spec PyProof.Rows
/-- what the law sees of the script's list: a thing that stays, if the written part has it not -/
def seen (K : PySem.W.Frag) (a : Addr) (ob : Obj) (xs : List V) : Hp := fun b => if b = a then (match K.lookup a with
  | none => some (.frz ob (.lst xs))
  | some _ => none) else none
theorem seen_some {K : PySem.W.Frag} {a b : Addr} {ob : Obj} {xs : List V} {u : HO} (h : seen K a ob xs b = some u) : b = a ∧ K.lookup a = none ∧ u = .frz ob (.lst xs) := by
  unfold seen at h
  by_cases e : b = a
  · rw [if_pos e] at h
    cases q : K.lookup a with
    | none =>
      rw [q] at h
      exact ⟨e, rfl, (Option.some.inj h).symm⟩
    | some o =>
      rw [q] at h
      cases h
  · rw [if_neg e] at h
    cases h
theorem seen_dict {K : PySem.W.Frag} {a b : Addr} {ob o : Obj} {xs : List V} {h : Heap} {its : Array Value} {n : Nat} {es : Array DictEntry} {ep : Nat} (ea : h.get? a = some ob) (da : ob.data = .seq its n) (eb : h.get? b = some o) (db : o.data = .dict es ep) : seen K a ob xs b = none := by
  cases q : seen K a ob xs b with
  | none => rfl
  | some u =>
    obtain ⟨z, _⟩ := seen_some q
    rw [z, ea] at eb
    cases eb
    rw [da] at db
    cases db
theorem hid_ns {h : Heap} {H : Hp} {b : Addr} {m : Str → Option Value} (n : ∀ {o : Obj} {es : Array DictEntry} {ep : Nat}, h.get? b = some o → o.data = .dict es ep → H b = none) (x : h.Ns b m) : (hidT h H).Ns b m := by
  obtain ⟨o, es, ep, e, d, r⟩ := x
  exact ⟨o, es, ep, hidT_get e (n e d), d, r⟩
/-- the law's call: what its promise says, at the top -/
theorem head_call {P : Program} {w : World} {K : PySem.W.Frag} {mg mb : Str → Option Value} {f a : Addr} {fd : FuncData} {s : Shared} {vs : List Value} {ns : List Int}
    (kin : K.In s.heap) (gl : s.heap.Ns mainGlobals mg) (bl : s.heap.Ns builtinsNs mb) (bb : ∀ x : Str, x ≠ "__name__" → mb x = bootBuiltins x) (lim : s.heap.NoLimit) (gn : s.gens = #[])
    (obj : s.heap.get? a = some { cls := .type "list", data := .seq vs.toArray }) (hint : IntsAre vs ns) (len : ns.length ≤ sizeLine) (bind : ∀ u : Value, BindsTo s fd ⟨[u], []⟩ [("_law_script", u)])
    (F : ∀ base : Heap, K.In base → base.Ns mainGlobals mg → FnG NoGuardC P w K mg base 12 f fd ["_law_script"] (spLaw K)) :
    codeAny (model P w) callerA (.call (.ref f) ⟨[.ref a], []⟩) (fun r s' => r = .ok (.ret (.bool true)) ∧ OldK s.heap s'.heap ∧ s'.os = s.os ∧ AllBare s'.gens) s := by
  have lv := hint.length
  have rv : Vals (ns.map V.int) vs := L2.vals_ints hint
  generalize hS : seen K a { cls := .type "list", data := .seq vs.toArray } (ns.map V.int) = S
  have back : ∀ {b : Addr} {u : HO}, S b = some u → b = a ∧ K.lookup a = none ∧ u = .frz { cls := .type "list", data := .seq vs.toArray } (.lst (ns.map V.int)) := fun {b u} z => seen_some (by rw [hS]; exact z)
  have dct : ∀ {b : Addr} {o : Obj} {es : Array DictEntry} {ep : Nat}, s.heap.get? b = some o → o.data = .dict es ep → S b = none := fun e d => by
    rw [← hS]
    exact seen_dict obj rfl e d
  have ok : HOk P w S s.heap := fun b u z => by
    obtain ⟨rfl, _, rfl⟩ := back z
    exact ⟨obj, by rw [List.length_map]; exact len, vs, _, rv, obj⟩
  have list : SqL K S a (ns.map V.int) := by
    cases q : K.lookup a with
    | none => exact .inl (.inr ⟨_, by rw [← hS]; unfold seen; rw [if_pos rfl, q]⟩)
    | some o =>
      have e := kin a o q
      rw [obj] at e
      cases e
      exact .inr ⟨_, vs.toArray, _, q, rfl, rfl, rfl, by rw [List.size_toArray, lv]; exact len, rv⟩
  have kin' : K.In (hidT s.heap S) := fun b o e => hidT_get (kin b o e) (by
    cases q : S b with
    | none => rfl
    | some u =>
      obtain ⟨rfl, z, _⟩ := back q
      rw [e] at z
      cases z)
  obtain ⟨ml, l1, l2⟩ := lim
  have gl' : (hidT s.heap S).Ns mainGlobals mg := hid_ns dct gl
  have md : Mod K mg (hidT s.heap S) := {
    kin := kin'
    glob := gl'
    blt := ⟨mb, hid_ns dct bl, bb⟩
    nolimit := ⟨ml, hid_ns dct l1, l2⟩ }
  have none_in : ∀ b : Addr, b ∈ frs [] → S b = none := fun b hb => absurd (show b ∈ ([] : List Addr) from hb) List.not_mem_nil
  have en : Env0 P w K mg (hidT s.heap S) callerA [] s S := {
    frames := rfl
    mod := md
    bs := fun b o e => of_hidT e
    bsz := Nat.le_of_eq (hidT_size _ _)
    funs := trivial
    frf := none_in
    hok := ok
    bare := .of_eq gn }
  have room : RoomH 12 callerA := ⟨by decide, by decide⟩
  refine codeAny_mono ((F _ kin' gl').run callerA [] s S ⟨[.ref a], []⟩ [.ref a] [.ref a] (fun v _ => v = .bl true) (fun _ _ _ => False) room ⟨rfl, rfl⟩ en (bind (.ref a)) (.cons rfl .nil) ⟨a, ns, rfl, list, fun _ => rfl⟩) ?_
  intro r s' z
  match r, z with
  | .ok (.ret u), z =>
    obtain ⟨v, S', os, br, un, ok', rv', ev⟩ := z
    have e : v = .bl true := ev
    rw [e] at rv'
    have eu : u = Value.bool true := rv'
    refine ⟨by rw [eu], .of_keep fun b o g => ?_, os, br⟩
    cases q : S b with
    | none => exact un.keep b o g q (fun y => absurd (show b ∈ ([] : List Addr) from y) List.not_mem_nil) List.not_mem_nil
    | some t =>
      obtain ⟨rfl, _, rfl⟩ := back q
      have q' := un.frzs _ _ _ q
      have g1 := (ok _ _ q).1
      have g2 := (ok' _ _ q').1
      rw [g1] at g
      cases g
      exact g2
end Gy

namespace Gy
open PySem L2 PySem.Spec PyProof.Rows
/-! ### what the program's top has left, told as truths -/
def exB (K : PySem.W.Frag) (C : Addr) : Bool :=
  (decide (PySem.W.findIn K (.ref C) "__setattr__" = some (some (.builtin "object.__setattr__"))) && decide (PySem.W.subIn K (.ref C) (.type "BaseException") = some true) && decide (PySem.W.typeIn K (.ref C) = some (.type "type")) && PySem.W.keepIn K (.ref C)) &&
  (decide (PySem.W.findIn K (.ref C) "__getattribute__" = some (some (.builtin "BaseException.__getattribute__"))) && decide (PySem.W.findIn K (.ref C) "__getattr__" = some none) && PySem.W.hasDictIn K C && decide (PySem.W.findIn K (.ref C) "__class__" = some (some (.builtin "object.__class__")))) &&
  (decide (PySem.W.specialIn K (.builtin "object.__class__") "__get__" = some (some (.builtin "getset_descriptor.__get__"))) && decide (PySem.W.takesIn K (.builtin "object.__class__") = some true) && decide (PySem.W.mroIn K C (.type "object") = some true))
def Shape (K : PySem.W.Frag) (C : Addr) : Prop := ∃ nm q N bs bm sn sub ab col dd k0 k1 k2 k3 k5, K.lookup C = some (excClassObj nm q C N bs bm true sn sub ab col dd k0 k1 k2 k3 k5 "ValueError.__new__") ∧ PySem.HandSPX.refsVE bm = true
theorem exq_of {K : PySem.W.Frag} {C : Addr} (h : Shape K C) (b : exB K C = true) : ExQ K C := by
  unfold exB at b
  simp only [Bool.and_eq_true, decide_eq_true_eq] at b
  obtain ⟨⟨⟨⟨⟨b1, b2⟩, b3⟩, b4⟩, ⟨⟨b5, b6⟩, b7⟩, b8⟩, ⟨b9, b10⟩, b11⟩ := b
  exact ⟨⟨h, b1, b2, b3, b4⟩, b5, b6, b7, b8, b9, b10, b11⟩
section
variable {P : Program} {w : World} {K : PySem.W.Frag} {mg : Str → Option Value} {base : Heap}
theorem all_mk {h : Heap} {fa G : Addr} (X : K.In h) (G' : h.Ns mainGlobals mg) (hfa : mg "law" = some (.ref fa))
    {C0 : Addr} {nm0 q0 : Str} {N0 : Addr} {bs0 : List Value} {sn0 : List Str} {sub0 : List Value} {ab0 : Bool} {col0 : Option Bool} {dd0 : Option Addr} {u0 v0 w0 x0 y0 : Option Value}
    {f0 : Addr} {od0 an0 : Option Addr} {sl0 : Array (Option Value)} {oc0 kV0 dc0 pm0 cd0 ct0 : Value}
    {tkR : Tok}
    {fKo : Addr} {odKo anKo : Option Addr} {slKo : Array (Option Value)} {ocKo kVKo dcKo pmKo cdKo ctKo : Value}
    {fMe : Addr} {odMe anMe : Option Addr} {slMe : Array (Option Value)} {ocMe kVMe dcMe pmMe cdMe ctMe : Value}
    {fGk : Addr} {odGk anGk : Option Addr} {slGk : Array (Option Value)} {ocGk kVGk dcGk pmGk cdGk ctGk : Value}
    {fIb : Addr} {odIb anIb : Option Addr} {slIb : Array (Option Value)} {ocIb kVIb dcIb pmIb cdIb ctIb : Value}
    {fBk : Addr} {odBk anBk : Option Addr} {slBk : Array (Option Value)} {ocBk kVBk dcBk pmBk cdBk ctBk : Value}
    {fOs : Addr} {odOs anOs : Option Addr} {slOs : Array (Option Value)} {ocOs kVOs dcOs pmOs cdOs ctOs : Value}
    {fIc : Addr} {odIc anIc : Option Addr} {slIc : Array (Option Value)} {ocIc kVIc dcIc pmIc cdIc ctIc : Value}
    {fCk : Addr} {odCk anCk : Option Addr} {slCk : Array (Option Value)} {ocCk kVCk dcCk pmCk cdCk ctCk : Value}
    {fFp : Addr} {odFp anFp : Option Addr} {slFp : Array (Option Value)} {ocFp kVFp dcFp pmFp cdFp ctFp : Value}
    {fIa : Addr} {odIa anIa : Option Addr} {slIa : Array (Option Value)} {ocIa kVIa dcIa pmIa cdIa ctIa : Value}
    {fAk : Addr} {odAk anAk : Option Addr} {slAk : Array (Option Value)} {ocAk kVAk dcAk pmAk cdAk ctAk : Value}
    {fKr : Addr} {odKr anKr : Option Addr} {slKr : Array (Option Value)} {ocKr kVKr dcKr pmKr cdKr ctKr : Value}
    {fAl : Addr} {odAl anAl : Option Addr} {slAl : Array (Option Value)} {ocAl kVAl dcAl pmAl cdAl ctAl : Value}
    {fLl : Addr} {odLl anLl : Option Addr} {slLl : Array (Option Value)} {ocLl kVLl dcLl pmLl cdLl ctLl : Value}
    {fRb : Addr} {odRb anRb : Option Addr} {slRb : Array (Option Value)} {ocRb kVRb dcRb pmRb cdRb ctRb : Value}
    {fPs : Addr} {odPs anPs : Option Addr} {slPs : Array (Option Value)} {ocPs kVPs dcPs pmPs cdPs ctPs : Value}
    {fPc : Addr} {odPc anPc : Option Addr} {slPc : Array (Option Value)} {ocPc kVPc dcPc pmPc cdPc ctPc : Value}
    {fB : Addr} {odB anB : Option Addr} {slB : Array (Option Value)} {ocB kVB dcB pmB cdB ctB : Value}
    {fT : Addr} {odT anT : Option Addr} {slT : Array (Option Value)} {ocT kVT dcT pmT cdT ctT : Value}
    {fS : Addr} {odS anS : Option Addr} {slS : Array (Option Value)} {ocS kVS dcS pmS cdS ctS : Value}
    {fA : Addr} {odA anA : Option Addr} {slA : Array (Option Value)} {ocA kVA dcA pmA cdA ctA : Value}
    {fM : Addr} {odM anM : Option Addr} {slM : Array (Option Value)} {ocM kVM dcM pmM cdM ctM : Value}
    {fNa : Addr} {odNa anNa : Option Addr} {slNa : Array (Option Value)} {ocNa kVNa dcNa pmNa cdNa ctNa : Value}
    {fNb : Addr} {odNb anNb : Option Addr} {slNb : Array (Option Value)} {ocNb kVNb dcNb pmNb cdNb ctNb : Value}
    {fNd : Addr} {odNd anNd : Option Addr} {slNd : Array (Option Value)} {ocNd kVNd dcNd pmNd cdNd ctNd : Value}
    {fGr : Addr} {odGr anGr : Option Addr} {slGr : Array (Option Value)} {ocGr kVGr dcGr pmGr cdGr ctGr : Value}
    {fAn : Addr} {odAn anAn : Option Addr} {slAn : Array (Option Value)} {ocAn kVAn dcAn pmAn cdAn ctAn : Value}
    {fPl : Addr} {odPl anPl : Option Addr} {slPl : Array (Option Value)} {ocPl kVPl dcPl pmPl cdPl ctPl : Value}
    {fMo : Addr} {odMo anMo : Option Addr} {slMo : Array (Option Value)} {ocMo kVMo dcMo pmMo cdMo ctMo : Value}
    {fTh : Addr} {odTh anTh : Option Addr} {slTh : Array (Option Value)} {ocTh kVTh dcTh pmTh cdTh ctTh : Value}
    {fRu : Addr} {odRu anRu : Option Addr} {slRu : Array (Option Value)} {ocRu kVRu dcRu pmRu cdRu ctRu : Value}
    {fKf : Addr} {odKf anKf : Option Addr} {slKf : Array (Option Value)} {ocKf kVKf dcKf pmKf cdKf ctKf : Value}
    {fBe : Addr} {odBe anBe : Option Addr} {slBe : Array (Option Value)} {ocBe kVBe dcBe pmBe cdBe ctBe : Value}
    {fIm : Addr} {odIm anIm : Option Addr} {slIm : Array (Option Value)} {ocIm kVIm dcIm pmIm cdIm ctIm : Value}
    {fLi : Addr} {odLi anLi : Option Addr} {slLi : Array (Option Value)} {ocLi kVLi dcLi pmLi cdLi ctLi : Value}
    {fCl : Addr} {odCl anCl : Option Addr} {slCl : Array (Option Value)} {ocCl kVCl dcCl pmCl cdCl ctCl : Value}
    {fFo : Addr} {odFo anFo : Option Addr} {slFo : Array (Option Value)} {ocFo kVFo dcFo pmFo cdFo ctFo : Value}
    {fAb : Addr} {odAb anAb : Option Addr} {slAb : Array (Option Value)} {ocAb kVAb dcAb pmAb cdAb ctAb : Value}
    {fLt : Addr} {odLt anLt : Option Addr} {slLt : Array (Option Value)} {ocLt kVLt dcLt pmLt cdLt ctLt : Value}
    {fWi : Addr} {odWi anWi : Option Addr} {slWi : Array (Option Value)} {ocWi kVWi dcWi pmWi cdWi ctWi : Value}
    {fPa : Addr} {odPa anPa : Option Addr} {slPa : Array (Option Value)} {ocPa kVPa dcPa pmPa cdPa ctPa : Value}
    {fLe : Addr} {odLe anLe : Option Addr} {slLe : Array (Option Value)} {ocLe kVLe dcLe pmLe cdLe ctLe : Value}
    {fLs : Addr} {odLs anLs : Option Addr} {slLs : Array (Option Value)} {ocLs kVLs dcLs pmLs cdLs ctLs : Value}
    {fLc : Addr} {odLc anLc : Option Addr} {slLc : Array (Option Value)} {ocLc kVLc dcLc pmLc cdLc ctLc : Value}
    {fLr : Addr} {odLr anLr : Option Addr} {slLr : Array (Option Value)} {ocLr kVLr dcLr pmLr cdLr ctLr : Value}
    {fL : Addr} {odL anL : Option Addr} {slL : Array (Option Value)} {ocL kVL dcL pmL cdL ctL : Value}
    (gG : PySem.W.nsIn K mainGlobals "GoneError" = some (some (.ref G)))
    (rG : PySem.W.readsIn K G (.type "type") = true) (sG : PySem.W.specialIn K (.ref G) "__getattribute__" = some (some (.builtin "type.__getattribute__"))) (iG : PySem.W.findCls K (.ref G) (.type "type") "__init__" = some (.val (.builtin "ValueError.__init__")))
    (a0 : PySem.W.nsIn K mainGlobals "NoKind" = some (some (.ref C0)))
    (x0L : K.lookup C0 = some (excClassObj nm0 q0 C0 N0 bs0 [.ref G, .type "ValueError", .type "Exception", .type "BaseException", .type "object"] true sn0 sub0 ab0 col0 dd0 u0 v0 w0 x0 y0 "ValueError.__new__"))
    (j0 : PySem.W.findIn K (.ref C0) "__init__" = some (some (.ref f0)))
    (t0 : PySem.W.typeIn K (.ref f0) = some (.type "function"))
    (l0 : K.lookup f0 = some ⟨oc0, od0, .func (PySem.W.fnOf "__init__" "NoKind.__init__" (defArgs (sIni 2)) (defBody (sIni 2)) (defScope (sIni 2)) .none kV0 dc0 pm0 an0 cd0 ct0), sl0⟩) (c0 : PySem.W.codeIn K cd0 "NoKind.__init__" = true) (k0 : PySem.W.keepIn K (.ref f0) = true)
    (n0name : PySem.W.findIn K (.ref C0) "name" = some none)
    (gROW : PySem.W.nsIn K mainGlobals "ROW" = some (some (.str "row" tkR)))
    (aKo : PySem.W.nsIn K mainGlobals "kind_of" = some (some (.ref fKo)))
    (lKo : K.lookup fKo = some ⟨ocKo, odKo, .func (PySem.W.fnOf "kind_of" "kind_of" (defArgs sKof) (defBody sKof) (defScope sKof) .none kVKo dcKo pmKo anKo cdKo ctKo), slKo⟩) (cKo : PySem.W.codeIn K cdKo "kind_of" = true) (kKo : PySem.W.keepIn K (.ref fKo) = true)
    (aMe : PySem.W.nsIn K mainGlobals "can_be_met" = some (some (.ref fMe)))
    (lMe : K.lookup fMe = some ⟨ocMe, odMe, .func (PySem.W.fnOf "can_be_met" "can_be_met" (defArgs sMet) (defBody sMet) (defScope sMet) .none kVMe dcMe pmMe anMe cdMe ctMe), slMe⟩) (cMe : PySem.W.codeIn K cdMe "can_be_met" = true) (kMe : PySem.W.keepIn K (.ref fMe) = true)
    (aGk : PySem.W.nsIn K mainGlobals "grown_kinds" = some (some (.ref fGk)))
    (lGk : K.lookup fGk = some ⟨ocGk, odGk, .func (PySem.W.fnOf "grown_kinds" "grown_kinds" (defArgs sGrown) (defBody sGrown) (defScope sGrown) .none kVGk dcGk pmGk anGk cdGk ctGk), slGk⟩) (cGk : PySem.W.codeIn K cdGk "grown_kinds" = true) (kGk : PySem.W.keepIn K (.ref fGk) = true)
    (aIb : PySem.W.nsIn K mainGlobals "is_bearing_by" = some (some (.ref fIb)))
    (lIb : K.lookup fIb = some ⟨ocIb, odIb, .func (PySem.W.fnOf "is_bearing_by" "is_bearing_by" (defArgs sBear) (defBody sBear) (defScope sBear) .none kVIb dcIb pmIb anIb cdIb ctIb), slIb⟩) (cIb : PySem.W.codeIn K cdIb "is_bearing_by" = true) (kIb : PySem.W.keepIn K (.ref fIb) = true)
    (aBk : PySem.W.nsIn K mainGlobals "bearing_kinds" = some (some (.ref fBk)))
    (lBk : K.lookup fBk = some ⟨ocBk, odBk, .func (PySem.W.fnOf "bearing_kinds" "bearing_kinds" (defArgs sBearK) (defBody sBearK) (defScope sBearK) .none kVBk dcBk pmBk anBk cdBk ctBk), slBk⟩) (cBk : PySem.W.codeIn K cdBk "bearing_kinds" = true) (kBk : PySem.W.keepIn K (.ref fBk) = true)
    (aOs : PySem.W.nsIn K mainGlobals "is_on_struck" = some (some (.ref fOs)))
    (lOs : K.lookup fOs = some ⟨ocOs, odOs, .func (PySem.W.fnOf "is_on_struck" "is_on_struck" (defArgs sOnS) (defBody sOnS) (defScope sOnS) .none kVOs dcOs pmOs anOs cdOs ctOs), slOs⟩) (cOs : PySem.W.codeIn K cdOs "is_on_struck" = true) (kOs : PySem.W.keepIn K (.ref fOs) = true)
    (aIc : PySem.W.nsIn K mainGlobals "is_clean_by" = some (some (.ref fIc)))
    (lIc : K.lookup fIc = some ⟨ocIc, odIc, .func (PySem.W.fnOf "is_clean_by" "is_clean_by" (defArgs sClean) (defBody sClean) (defScope sClean) .none kVIc dcIc pmIc anIc cdIc ctIc), slIc⟩) (cIc : PySem.W.codeIn K cdIc "is_clean_by" = true) (kIc : PySem.W.keepIn K (.ref fIc) = true)
    (aCk : PySem.W.nsIn K mainGlobals "clean_kinds" = some (some (.ref fCk)))
    (lCk : K.lookup fCk = some ⟨ocCk, odCk, .func (PySem.W.fnOf "clean_kinds" "clean_kinds" (defArgs sCleanK) (defBody sCleanK) (defScope sCleanK) .none kVCk dcCk pmCk anCk cdCk ctCk), slCk⟩) (cCk : PySem.W.codeIn K cdCk "clean_kinds" = true) (kCk : PySem.W.keepIn K (.ref fCk) = true)
    (aFp : PySem.W.nsIn K mainGlobals "forced_places" = some (some (.ref fFp)))
    (lFp : K.lookup fFp = some ⟨ocFp, odFp, .func (PySem.W.fnOf "forced_places" "forced_places" (defArgs sForced) (defBody sForced) (defScope sForced) .none kVFp dcFp pmFp anFp cdFp ctFp), slFp⟩) (cFp : PySem.W.codeIn K cdFp "forced_places" = true) (kFp : PySem.W.keepIn K (.ref fFp) = true)
    (aIa : PySem.W.nsIn K mainGlobals "is_able_by" = some (some (.ref fIa)))
    (lIa : K.lookup fIa = some ⟨ocIa, odIa, .func (PySem.W.fnOf "is_able_by" "is_able_by" (defArgs sAble) (defBody sAble) (defScope sAble) .none kVIa dcIa pmIa anIa cdIa ctIa), slIa⟩) (cIa : PySem.W.codeIn K cdIa "is_able_by" = true) (kIa : PySem.W.keepIn K (.ref fIa) = true)
    (aAk : PySem.W.nsIn K mainGlobals "able_kinds" = some (some (.ref fAk)))
    (lAk : K.lookup fAk = some ⟨ocAk, odAk, .func (PySem.W.fnOf "able_kinds" "able_kinds" (defArgs sAbleK) (defBody sAbleK) (defScope sAbleK) .none kVAk dcAk pmAk anAk cdAk ctAk), slAk⟩) (cAk : PySem.W.codeIn K cdAk "able_kinds" = true) (kAk : PySem.W.keepIn K (.ref fAk) = true)
    (aKr : PySem.W.nsIn K mainGlobals "kinds_reached" = some (some (.ref fKr)))
    (lKr : K.lookup fKr = some ⟨ocKr, odKr, .func (PySem.W.fnOf "kinds_reached" "kinds_reached" (defArgs sReach) (defBody sReach) (defScope sReach) .none kVKr dcKr pmKr anKr cdKr ctKr), slKr⟩) (cKr : PySem.W.codeIn K cdKr "kinds_reached" = true) (kKr : PySem.W.keepIn K (.ref fKr) = true)
    (aAl : PySem.W.nsIn K mainGlobals "all_lots" = some (some (.ref fAl)))
    (lAl : K.lookup fAl = some ⟨ocAl, odAl, .func (PySem.W.fnOf "all_lots" "all_lots" (defArgs sAllL) (defBody sAllL) (defScope sAllL) .none kVAl dcAl pmAl anAl cdAl ctAl), slAl⟩) (cAl : PySem.W.codeIn K cdAl "all_lots" = true) (kAl : PySem.W.keepIn K (.ref fAl) = true)
    (aLl : PySem.W.nsIn K mainGlobals "least_lots" = some (some (.ref fLl)))
    (lLl : K.lookup fLl = some ⟨ocLl, odLl, .func (PySem.W.fnOf "least_lots" "least_lots" (defArgs sLeastL) (defBody sLeastL) (defScope sLeastL) .none kVLl dcLl pmLl anLl cdLl ctLl), slLl⟩) (cLl : PySem.W.codeIn K cdLl "least_lots" = true) (kLl : PySem.W.keepIn K (.ref fLl) = true)
    (aRb : PySem.W.nsIn K mainGlobals "rows_but" = some (some (.ref fRb)))
    (lRb : K.lookup fRb = some ⟨ocRb, odRb, .func (PySem.W.fnOf "rows_but" "rows_but" (defArgs sBut) (defBody sBut) (defScope sBut) .none kVRb dcRb pmRb anRb cdRb ctRb), slRb⟩) (cRb : PySem.W.codeIn K cdRb "rows_but" = true) (kRb : PySem.W.keepIn K (.ref fRb) = true)
    (aPs : PySem.W.nsIn K mainGlobals "least_supports" = some (some (.ref fPs)))
    (lPs : K.lookup fPs = some ⟨ocPs, odPs, .func (PySem.W.fnOf "least_supports" "least_supports" (defArgs sSupP) (defBody sSupP) (defScope sSupP) .none kVPs dcPs pmPs anPs cdPs ctPs), slPs⟩) (cPs : PySem.W.codeIn K cdPs "least_supports" = true) (kPs : PySem.W.keepIn K (.ref fPs) = true)
    (aPc : PySem.W.nsIn K mainGlobals "least_chokes" = some (some (.ref fPc)))
    (lPc : K.lookup fPc = some ⟨ocPc, odPc, .func (PySem.W.fnOf "least_chokes" "least_chokes" (defArgs sChkP) (defBody sChkP) (defScope sChkP) .none kVPc dcPc pmPc anPc cdPc ctPc), slPc⟩) (cPc : PySem.W.codeIn K cdPc "least_chokes" = true) (kPc : PySem.W.keepIn K (.ref fPc) = true)
    (aB : PySem.W.nsIn K mainGlobals "_law_bag" = some (some (.ref fB)))
    (lB : K.lookup fB = some ⟨ocB, odB, .func (PySem.W.fnOf "_law_bag" "_law_bag" (defArgs sBag) (defBody sBag) (defScope sBag) .none kVB dcB pmB anB cdB ctB), slB⟩) (cB : PySem.W.codeIn K cdB "_law_bag" = true) (kB : PySem.W.keepIn K (.ref fB) = true)
    (aT : PySem.W.nsIn K mainGlobals "_law_take" = some (some (.ref fT)))
    (lT : K.lookup fT = some ⟨ocT, odT, .func (PySem.W.fnOf "_law_take" "_law_take" (defArgs sTake) (defBody sTake) (defScope sTake) .none kVT dcT pmT anT cdT ctT), slT⟩) (cT : PySem.W.codeIn K cdT "_law_take" = true) (kT : PySem.W.keepIn K (.ref fT) = true)
    (aS : PySem.W.nsIn K mainGlobals "_law_some" = some (some (.ref fS)))
    (lS : K.lookup fS = some ⟨ocS, odS, .func (PySem.W.fnOf "_law_some" "_law_some" (defArgs sSome) (defBody sSome) (defScope sSome) .none kVS dcS pmS anS cdS ctS), slS⟩) (cS : PySem.W.codeIn K cdS "_law_some" = true) (kS : PySem.W.keepIn K (.ref fS) = true)
    (aA : PySem.W.nsIn K mainGlobals "_law_alike" = some (some (.ref fA)))
    (lA : K.lookup fA = some ⟨ocA, odA, .func (PySem.W.fnOf "_law_alike" "_law_alike" (defArgs sAlike) (defBody sAlike) (defScope sAlike) .none kVA dcA pmA anA cdA ctA), slA⟩) (cA : PySem.W.codeIn K cdA "_law_alike" = true) (kA : PySem.W.keepIn K (.ref fA) = true)
    (aM : PySem.W.nsIn K mainGlobals "_law_mixed" = some (some (.ref fM)))
    (lM : K.lookup fM = some ⟨ocM, odM, .func (PySem.W.fnOf "_law_mixed" "_law_mixed" (defArgs sMixed) (defBody sMixed) (defScope sMixed) .none kVM dcM pmM anM cdM ctM), slM⟩) (cM : PySem.W.codeIn K cdM "_law_mixed" = true) (kM : PySem.W.keepIn K (.ref fM) = true)
    (aNa : PySem.W.nsIn K mainGlobals "_law_named" = some (some (.ref fNa)))
    (lNa : K.lookup fNa = some ⟨ocNa, odNa, .func (PySem.W.fnOf "_law_named" "_law_named" (defArgs sNamed) (defBody sNamed) (defScope sNamed) .none kVNa dcNa pmNa anNa cdNa ctNa), slNa⟩) (cNa : PySem.W.codeIn K cdNa "_law_named" = true) (kNa : PySem.W.keepIn K (.ref fNa) = true)
    (aNb : PySem.W.nsIn K mainGlobals "_law_numbers" = some (some (.ref fNb)))
    (lNb : K.lookup fNb = some ⟨ocNb, odNb, .func (PySem.W.fnOf "_law_numbers" "_law_numbers" (defArgs sNumbers) (defBody sNumbers) (defScope sNumbers) .none kVNb dcNb pmNb anNb cdNb ctNb), slNb⟩) (cNb : PySem.W.codeIn K cdNb "_law_numbers" = true) (kNb : PySem.W.keepIn K (.ref fNb) = true)
    (aNd : PySem.W.nsIn K mainGlobals "_law_need" = some (some (.ref fNd)))
    (lNd : K.lookup fNd = some ⟨ocNd, odNd, .func (PySem.W.fnOf "_law_need" "_law_need" (defArgs sNeed) (defBody sNeed) (defScope sNeed) .none kVNd dcNd pmNd anNd cdNd ctNd), slNd⟩) (cNd : PySem.W.codeIn K cdNd "_law_need" = true) (kNd : PySem.W.keepIn K (.ref fNd) = true)
    (aGr : PySem.W.nsIn K mainGlobals "_law_ground" = some (some (.ref fGr)))
    (lGr : K.lookup fGr = some ⟨ocGr, odGr, .func (PySem.W.fnOf "_law_ground" "_law_ground" (defArgs sGround) (defBody sGround) (defScope sGround) .none kVGr dcGr pmGr anGr cdGr ctGr), slGr⟩) (cGr : PySem.W.codeIn K cdGr "_law_ground" = true) (kGr : PySem.W.keepIn K (.ref fGr) = true)
    (aAn : PySem.W.nsIn K mainGlobals "_law_any_rulebook" = some (some (.ref fAn)))
    (lAn : K.lookup fAn = some ⟨ocAn, odAn, .func (PySem.W.fnOf "_law_any_rulebook" "_law_any_rulebook" (defArgs sAny) (defBody sAny) (defScope sAny) .none kVAn dcAn pmAn anAn cdAn ctAn), slAn⟩) (cAn : PySem.W.codeIn K cdAn "_law_any_rulebook" = true) (kAn : PySem.W.keepIn K (.ref fAn) = true)
    (aPl : PySem.W.nsIn K mainGlobals "_law_planted" = some (some (.ref fPl)))
    (lPl : K.lookup fPl = some ⟨ocPl, odPl, .func (PySem.W.fnOf "_law_planted" "_law_planted" (defArgs sPlanted) (defBody sPlanted) (defScope sPlanted) .none kVPl dcPl pmPl anPl cdPl ctPl), slPl⟩) (cPl : PySem.W.codeIn K cdPl "_law_planted" = true) (kPl : PySem.W.keepIn K (.ref fPl) = true)
    (aMo : PySem.W.nsIn K mainGlobals "_law_more_needs" = some (some (.ref fMo)))
    (lMo : K.lookup fMo = some ⟨ocMo, odMo, .func (PySem.W.fnOf "_law_more_needs" "_law_more_needs" (defArgs sMore) (defBody sMore) (defScope sMore) .none kVMo dcMo pmMo anMo cdMo ctMo), slMo⟩) (cMo : PySem.W.codeIn K cdMo "_law_more_needs" = true) (kMo : PySem.W.keepIn K (.ref fMo) = true)
    (aTh : PySem.W.nsIn K mainGlobals "_law_threaded" = some (some (.ref fTh)))
    (lTh : K.lookup fTh = some ⟨ocTh, odTh, .func (PySem.W.fnOf "_law_threaded" "_law_threaded" (defArgs sThreaded) (defBody sThreaded) (defScope sThreaded) .none kVTh dcTh pmTh anTh cdTh ctTh), slTh⟩) (cTh : PySem.W.codeIn K cdTh "_law_threaded" = true) (kTh : PySem.W.keepIn K (.ref fTh) = true)
    (aRu : PySem.W.nsIn K mainGlobals "_law_rulebook" = some (some (.ref fRu)))
    (lRu : K.lookup fRu = some ⟨ocRu, odRu, .func (PySem.W.fnOf "_law_rulebook" "_law_rulebook" (defArgs sRule) (defBody sRule) (defScope sRule) .none kVRu dcRu pmRu anRu cdRu ctRu), slRu⟩) (cRu : PySem.W.codeIn K cdRu "_law_rulebook" = true) (kRu : PySem.W.keepIn K (.ref fRu) = true)
    (aKf : PySem.W.nsIn K mainGlobals "_law_kinds_of" = some (some (.ref fKf)))
    (lKf : K.lookup fKf = some ⟨ocKf, odKf, .func (PySem.W.fnOf "_law_kinds_of" "_law_kinds_of" (defArgs sKindsOf) (defBody sKindsOf) (defScope sKindsOf) .none kVKf dcKf pmKf anKf cdKf ctKf), slKf⟩) (cKf : PySem.W.codeIn K cdKf "_law_kinds_of" = true) (kKf : PySem.W.keepIn K (.ref fKf) = true)
    (aBe : PySem.W.nsIn K mainGlobals "_law_bearing" = some (some (.ref fBe)))
    (lBe : K.lookup fBe = some ⟨ocBe, odBe, .func (PySem.W.fnOf "_law_bearing" "_law_bearing" (defArgs sBearing) (defBody sBearing) (defScope sBearing) .none kVBe dcBe pmBe anBe cdBe ctBe), slBe⟩) (cBe : PySem.W.codeIn K cdBe "_law_bearing" = true) (kBe : PySem.W.keepIn K (.ref fBe) = true)
    (aIm : PySem.W.nsIn K mainGlobals "_law_is_met" = some (some (.ref fIm)))
    (lIm : K.lookup fIm = some ⟨ocIm, odIm, .func (PySem.W.fnOf "_law_is_met" "_law_is_met" (defArgs sIsMet) (defBody sIsMet) (defScope sIsMet) .none kVIm dcIm pmIm anIm cdIm ctIm), slIm⟩) (cIm : PySem.W.codeIn K cdIm "_law_is_met" = true) (kIm : PySem.W.keepIn K (.ref fIm) = true)
    (aLi : PySem.W.nsIn K mainGlobals "_law_live" = some (some (.ref fLi)))
    (lLi : K.lookup fLi = some ⟨ocLi, odLi, .func (PySem.W.fnOf "_law_live" "_law_live" (defArgs sLive) (defBody sLive) (defScope sLive) .none kVLi dcLi pmLi anLi cdLi ctLi), slLi⟩) (cLi : PySem.W.codeIn K cdLi "_law_live" = true) (kLi : PySem.W.keepIn K (.ref fLi) = true)
    (aCl : PySem.W.nsIn K mainGlobals "_law_clean" = some (some (.ref fCl)))
    (lCl : K.lookup fCl = some ⟨ocCl, odCl, .func (PySem.W.fnOf "_law_clean" "_law_clean" (defArgs sCleanL) (defBody sCleanL) (defScope sCleanL) .none kVCl dcCl pmCl anCl cdCl ctCl), slCl⟩) (cCl : PySem.W.codeIn K cdCl "_law_clean" = true) (kCl : PySem.W.keepIn K (.ref fCl) = true)
    (aFo : PySem.W.nsIn K mainGlobals "_law_forced" = some (some (.ref fFo)))
    (lFo : K.lookup fFo = some ⟨ocFo, odFo, .func (PySem.W.fnOf "_law_forced" "_law_forced" (defArgs sForced2) (defBody sForced2) (defScope sForced2) .none kVFo dcFo pmFo anFo cdFo ctFo), slFo⟩) (cFo : PySem.W.codeIn K cdFo "_law_forced" = true) (kFo : PySem.W.keepIn K (.ref fFo) = true)
    (aAb : PySem.W.nsIn K mainGlobals "_law_able" = some (some (.ref fAb)))
    (lAb : K.lookup fAb = some ⟨ocAb, odAb, .func (PySem.W.fnOf "_law_able" "_law_able" (defArgs sAbleL) (defBody sAbleL) (defScope sAbleL) .none kVAb dcAb pmAb anAb cdAb ctAb), slAb⟩) (cAb : PySem.W.codeIn K cdAb "_law_able" = true) (kAb : PySem.W.keepIn K (.ref fAb) = true)
    (aLt : PySem.W.nsIn K mainGlobals "_law_lots_of" = some (some (.ref fLt)))
    (lLt : K.lookup fLt = some ⟨ocLt, odLt, .func (PySem.W.fnOf "_law_lots_of" "_law_lots_of" (defArgs sLots2) (defBody sLots2) (defScope sLots2) .none kVLt dcLt pmLt anLt cdLt ctLt), slLt⟩) (cLt : PySem.W.codeIn K cdLt "_law_lots_of" = true) (kLt : PySem.W.keepIn K (.ref fLt) = true)
    (aWi : PySem.W.nsIn K mainGlobals "_law_within" = some (some (.ref fWi)))
    (lWi : K.lookup fWi = some ⟨ocWi, odWi, .func (PySem.W.fnOf "_law_within" "_law_within" (defArgs sWithin) (defBody sWithin) (defScope sWithin) .none kVWi dcWi pmWi anWi cdWi ctWi), slWi⟩) (cWi : PySem.W.codeIn K cdWi "_law_within" = true) (kWi : PySem.W.keepIn K (.ref fWi) = true)
    (aPa : PySem.W.nsIn K mainGlobals "_law_part_by_rows" = some (some (.ref fPa)))
    (lPa : K.lookup fPa = some ⟨ocPa, odPa, .func (PySem.W.fnOf "_law_part_by_rows" "_law_part_by_rows" (defArgs sPart) (defBody sPart) (defScope sPart) .none kVPa dcPa pmPa anPa cdPa ctPa), slPa⟩) (cPa : PySem.W.codeIn K cdPa "_law_part_by_rows" = true) (kPa : PySem.W.keepIn K (.ref fPa) = true)
    (aLe : PySem.W.nsIn K mainGlobals "_law_least_of" = some (some (.ref fLe)))
    (lLe : K.lookup fLe = some ⟨ocLe, odLe, .func (PySem.W.fnOf "_law_least_of" "_law_least_of" (defArgs sLeastOf) (defBody sLeastOf) (defScope sLeastOf) .none kVLe dcLe pmLe anLe cdLe ctLe), slLe⟩) (cLe : PySem.W.codeIn K cdLe "_law_least_of" = true) (kLe : PySem.W.keepIn K (.ref fLe) = true)
    (aLs : PySem.W.nsIn K mainGlobals "_law_supports" = some (some (.ref fLs)))
    (lLs : K.lookup fLs = some ⟨ocLs, odLs, .func (PySem.W.fnOf "_law_supports" "_law_supports" (defArgs sSupL) (defBody sSupL) (defScope sSupL) .none kVLs dcLs pmLs anLs cdLs ctLs), slLs⟩) (cLs : PySem.W.codeIn K cdLs "_law_supports" = true) (kLs : PySem.W.keepIn K (.ref fLs) = true)
    (aLc : PySem.W.nsIn K mainGlobals "_law_chokes" = some (some (.ref fLc)))
    (lLc : K.lookup fLc = some ⟨ocLc, odLc, .func (PySem.W.fnOf "_law_chokes" "_law_chokes" (defArgs sChkL) (defBody sChkL) (defScope sChkL) .none kVLc dcLc pmLc anLc cdLc ctLc), slLc⟩) (cLc : PySem.W.codeIn K cdLc "_law_chokes" = true) (kLc : PySem.W.keepIn K (.ref fLc) = true)
    (aLr : PySem.W.nsIn K mainGlobals "_law_are_lots_right" = some (some (.ref fLr)))
    (lLr : K.lookup fLr = some ⟨ocLr, odLr, .func (PySem.W.fnOf "_law_are_lots_right" "_law_are_lots_right" (defArgs sALR) (defBody sALR) (defScope sALR) .none kVLr dcLr pmLr anLr cdLr ctLr), slLr⟩) (cLr : PySem.W.codeIn K cdLr "_law_are_lots_right" = true) (kLr : PySem.W.keepIn K (.ref fLr) = true)
    (aL : PySem.W.nsIn K mainGlobals "law" = some (some (.ref fL)))
    (lL : K.lookup fL = some ⟨ocL, odL, .func (PySem.W.fnOf "law" "law" (defArgs sLaw) (defBody sLaw) (defScope sLaw) .none kVL dcL pmL anL cdL ctL), slL⟩) (cL : PySem.W.codeIn K cdL "law" = true) (kL : PySem.W.keepIn K (.ref fL) = true)
    (zint : PySem.W.nsIn K mainGlobals "int" = some none)
    (zabs : PySem.W.nsIn K mainGlobals "abs" = some none)
    (zlen : PySem.W.nsIn K mainGlobals "len" = some none)
    (zrepr : PySem.W.nsIn K mainGlobals "repr" = some none)
    (zrange : PySem.W.nsIn K mainGlobals "range" = some none)
    (zlist : PySem.W.nsIn K mainGlobals "list" = some none)
    (ztuple : PySem.W.nsIn K mainGlobals "tuple" = some none)
    (zsorted : PySem.W.nsIn K mainGlobals "sorted" = some none)
    (zset : PySem.W.nsIn K mainGlobals "set" = some none)
    (zdict : PySem.W.nsIn K mainGlobals "dict" = some none)
    (zenumerate : PySem.W.nsIn K mainGlobals "enumerate" = some none)
    (zany : PySem.W.nsIn K mainGlobals "any" = some none)
    (zall : PySem.W.nsIn K mainGlobals "all" = some none)
    (bX : exB K C0 = true) :
    ∃ fd : FuncData, (∀ (s : Shared) (v : Value), BindsTo s fd ⟨[v], []⟩ [("_law_script", v)]) ∧ ∀ base : Heap, K.In base → base.Ns mainGlobals mg → FnG NoGuardC P w K mg base 12 fa fd ["_law_script"] (spLaw K) := by
  have e := hfa.symm.trans (PySem.W.mg_of X G' aL)
  cases e
  have m : ∀ {x : Str} {v : Value}, PySem.W.nsIn K mainGlobals x = some (some v) → mg x = some v := fun q => PySem.W.mg_of X G' q
  have z : ∀ {x : Str}, PySem.W.nsIn K mainGlobals x = some none → mg x = none := fun q => PySem.W.mg_none_of X G' q
  have TE : ErrC K mg G := ⟨m gG, rG, sG, iG⟩
  have E0' : ExQ K C0 := exq_of ⟨nm0, q0, N0, bs0, _, sn0, sub0, ab0, col0, dd0, u0, v0, w0, x0, y0, x0L, rfl⟩ bX
  have F0 := fun_mk (st := sIni 2) l0 c0 k0
  have B0 := F0.binds (ps := ["self", "name"]) fun _ _ _ _ _ _ us hl => match us, hl with | [_, _], _ => rfl
  have FKo := fun_mk (st := sKof) lKo cKo kKo
  have BKo := FKo.binds (ps := ["rulebook", "name"]) fun _ _ _ _ _ _ us hl => match us, hl with | [_, _], _ => rfl
  have FMe := fun_mk (st := sMet) lMe cMe kMe
  have BMe := FMe.binds (ps := ["rulebook", "need", "names"]) fun _ _ _ _ _ _ us hl => match us, hl with | [_, _, _], _ => rfl
  have FGk := fun_mk (st := sGrown) lGk cGk kGk
  have BGk := FGk.binds (ps := ["rulebook", "is_right", "given"]) fun _ _ _ _ _ _ us hl => match us, hl with | [_, _, _], _ => rfl
  have FIb := fun_mk (st := sBear) lIb cIb kIb
  have BIb := FIb.binds (ps := ["rulebook", "ground", "found", "given"]) fun _ _ _ _ _ _ us hl => match us, hl with | [_, _, _, _], _ => rfl
  have FBk := fun_mk (st := sBearK) lBk cBk kBk
  have BBk := FBk.binds (ps := ["rulebook"]) fun _ _ _ _ _ _ us hl => match us, hl with | [_], _ => rfl
  have FOs := fun_mk (st := sOnS) lOs cOs kOs
  have BOs := FOs.binds (ps := ["need", "struck"]) fun _ _ _ _ _ _ us hl => match us, hl with | [_, _], _ => rfl
  have FIc := fun_mk (st := sClean) lIc cIc kIc
  have BIc := FIc.binds (ps := ["rulebook", "ground", "found", "struck"]) fun _ _ _ _ _ _ us hl => match us, hl with | [_, _, _, _], _ => rfl
  have FCk := fun_mk (st := sCleanK) lCk cCk kCk
  have BCk := FCk.binds (ps := ["rulebook", "struck"]) fun _ _ _ _ _ _ us hl => match us, hl with | [_, _], _ => rfl
  have FFp := fun_mk (st := sForced) lFp cFp kFp
  have BFp := FFp.binds (ps := ["ground", "struck", "clean"]) fun _ _ _ _ _ _ us hl => match us, hl with | [_, _, _], _ => rfl
  have FIa := fun_mk (st := sAble) lIa cIa kIa
  have BIa := FIa.binds (ps := ["rulebook", "ground", "found", "given"]) fun _ _ _ _ _ _ us hl => match us, hl with | [_, _, _, _], _ => rfl
  have FAk := fun_mk (st := sAbleK) lAk cAk kAk
  have BAk := FAk.binds (ps := ["rulebook", "struck"]) fun _ _ _ _ _ _ us hl => match us, hl with | [_, _], _ => rfl
  have FKr := fun_mk (st := sReach) lKr cKr kKr
  have BKr := FKr.binds (ps := ["rulebook", "row"]) fun _ _ _ _ _ _ us hl => match us, hl with | [_, _], _ => rfl
  have FAl := fun_mk (st := sAllL) lAl cAl kAl
  have BAl := FAl.binds (ps := ["things"]) fun _ _ _ _ _ _ us hl => match us, hl with | [_], _ => rfl
  have FLl := fun_mk (st := sLeastL) lLl cLl kLl
  have BLl := FLl.binds (ps := ["lots"]) fun _ _ _ _ _ _ us hl => match us, hl with | [_], _ => rfl
  have FRb := fun_mk (st := sBut) lRb cRb kRb
  have BRb := FRb.binds (ps := ["rulebook", "lot"]) fun _ _ _ _ _ _ us hl => match us, hl with | [_, _], _ => rfl
  have FPs := fun_mk (st := sSupP) lPs cPs kPs
  have BPs := FPs.binds (ps := ["rulebook", "name"]) fun _ _ _ _ _ _ us hl => match us, hl with | [_, _], _ => rfl
  have FPc := fun_mk (st := sChkP) lPc cPc kPc
  have BPc := FPc.binds (ps := ["rulebook", "name"]) fun _ _ _ _ _ _ us hl => match us, hl with | [_, _], _ => rfl
  have FB := fun_mk (st := sBag) lB cB kB
  have BB := FB.binds (ps := ["_law_script"]) fun _ _ _ _ _ _ us hl => match us, hl with | [_], _ => rfl
  have FT := fun_mk (st := sTake) lT cT kT
  have BT := FT.binds (ps := ["_law_bag_here", "_law_upto"]) fun _ _ _ _ _ _ us hl => match us, hl with | [_, _], _ => rfl
  have FS := fun_mk (st := sSome) lS cS kS
  have BS := FS.binds (ps := ["_law_bag_here", "_law_things"]) fun _ _ _ _ _ _ us hl => match us, hl with | [_, _], _ => rfl
  have FA := fun_mk (st := sAlike) lA cA kA
  have BA := FA.binds (ps := ["_law_found", "_law_due"]) fun _ _ _ _ _ _ us hl => match us, hl with | [_, _], _ => rfl
  have FM := fun_mk (st := sMixed) lM cM kM
  have BM := FM.binds (ps := ["_law_bag_here", "_law_things"]) fun _ _ _ _ _ _ us hl => match us, hl with | [_, _], _ => rfl
  have FNa := fun_mk (st := sNamed) lNa cNa kNa
  have BNa := FNa.binds (ps := ["_law_bag_here", "_law_many"]) fun _ _ _ _ _ _ us hl => match us, hl with | [_, _], _ => rfl
  have FNb := fun_mk (st := sNumbers) lNb cNb kNb
  have BNb := FNb.binds (ps := ["_law_bag_here"]) fun _ _ _ _ _ _ us hl => match us, hl with | [_], _ => rfl
  have FNd := fun_mk (st := sNeed) lNd cNd kNd
  have BNd := FNd.binds (ps := ["_law_bag_here", "_law_rows", "_law_names"]) fun _ _ _ _ _ _ us hl => match us, hl with | [_, _, _], _ => rfl
  have FGr := fun_mk (st := sGround) lGr cGr kGr
  have BGr := FGr.binds (ps := ["_law_bag_here", "_law_rows", "_law_names"]) fun _ _ _ _ _ _ us hl => match us, hl with | [_, _, _], _ => rfl
  have FAn := fun_mk (st := sAny) lAn cAn kAn
  have BAn := FAn.binds (ps := ["_law_bag_here", "_law_kinds", "_law_rows"]) fun _ _ _ _ _ _ us hl => match us, hl with | [_, _, _], _ => rfl
  have FPl := fun_mk (st := sPlanted) lPl cPl kPl
  have BPl := FPl.binds (ps := ["_law_bag_here", "_law_sort", "_law_kinds"]) fun _ _ _ _ _ _ us hl => match us, hl with | [_, _, _], _ => rfl
  have FMo := fun_mk (st := sMore) lMo cMo kMo
  have BMo := FMo.binds (ps := ["_law_bag_here", "_law_sort", "_law_rows"]) fun _ _ _ _ _ _ us hl => match us, hl with | [_, _, _], _ => rfl
  have FTh := fun_mk (st := sThreaded) lTh cTh kTh
  have BTh := FTh.binds (ps := ["_law_bag_here", "_law_kinds"]) fun _ _ _ _ _ _ us hl => match us, hl with | [_, _], _ => rfl
  have FRu := fun_mk (st := sRule) lRu cRu kRu
  have BRu := FRu.binds (ps := ["_law_bag_here", "_law_kinds"]) fun _ _ _ _ _ _ us hl => match us, hl with | [_, _], _ => rfl
  have FKf := fun_mk (st := sKindsOf) lKf cKf kKf
  have BKf := FKf.binds (ps := ["_law_rulebook_here"]) fun _ _ _ _ _ _ us hl => match us, hl with | [_], _ => rfl
  have FBe := fun_mk (st := sBearing) lBe cBe kBe
  have BBe := FBe.binds (ps := ["_law_rulebook_here"]) fun _ _ _ _ _ _ us hl => match us, hl with | [_], _ => rfl
  have FIm := fun_mk (st := sIsMet) lIm cIm kIm
  have BIm := FIm.binds (ps := ["_law_kinds", "_law_found", "_law_ground_here"]) fun _ _ _ _ _ _ us hl => match us, hl with | [_, _, _], _ => rfl
  have FLi := fun_mk (st := sLive) lLi cLi kLi
  have BLi := FLi.binds (ps := ["_law_rulebook_here"]) fun _ _ _ _ _ _ us hl => match us, hl with | [_], _ => rfl
  have FCl := fun_mk (st := sCleanL) lCl cCl kCl
  have BCl := FCl.binds (ps := ["_law_rulebook_here", "_law_struck"]) fun _ _ _ _ _ _ us hl => match us, hl with | [_, _], _ => rfl
  have FFo := fun_mk (st := sForced2) lFo cFo kFo
  have BFo := FFo.binds (ps := ["_law_struck", "_law_clean_here", "_law_ground_here"]) fun _ _ _ _ _ _ us hl => match us, hl with | [_, _, _], _ => rfl
  have FAb := fun_mk (st := sAbleL) lAb cAb kAb
  have BAb := FAb.binds (ps := ["_law_rulebook_here", "_law_struck"]) fun _ _ _ _ _ _ us hl => match us, hl with | [_, _], _ => rfl
  have FLt := fun_mk (st := sLots2) lLt cLt kLt
  have BLt := FLt.binds (ps := ["_law_things"]) fun _ _ _ _ _ _ us hl => match us, hl with | [_], _ => rfl
  have FWi := fun_mk (st := sWithin) lWi cWi kWi
  have BWi := FWi.binds (ps := ["_law_lot", "_law_other"]) fun _ _ _ _ _ _ us hl => match us, hl with | [_, _], _ => rfl
  have FPa := fun_mk (st := sPart) lPa cPa kPa
  have BPa := FPa.binds (ps := ["_law_rulebook_here", "_law_lot"]) fun _ _ _ _ _ _ us hl => match us, hl with | [_, _], _ => rfl
  have FLe := fun_mk (st := sLeastOf) lLe cLe kLe
  have BLe := FLe.binds (ps := ["_law_lots"]) fun _ _ _ _ _ _ us hl => match us, hl with | [_], _ => rfl
  have FLs := fun_mk (st := sSupL) lLs cLs kLs
  have BLs := FLs.binds (ps := ["_law_rulebook_here", "_law_name"]) fun _ _ _ _ _ _ us hl => match us, hl with | [_, _], _ => rfl
  have FLc := fun_mk (st := sChkL) lLc cLc kLc
  have BLc := FLc.binds (ps := ["_law_rulebook_here", "_law_name"]) fun _ _ _ _ _ _ us hl => match us, hl with | [_, _], _ => rfl
  have FLr := fun_mk (st := sALR) lLr cLr kLr
  have BLr := FLr.binds (ps := ["_law_rulebook_here"]) fun _ _ _ _ _ _ us hl => match us, hl with | [_], _ => rfl
  have TA : TxtA mg := ⟨z zint, z zabs, z zlen⟩
  have TB : TxtB K mg fT := ⟨TA, m aT, kT⟩
  have TG := (⟨TB, m aS, BS, kS⟩ : TxtG K mg fT fS _)
  have TO : TxtO mg := ⟨z ztuple, z zsorted, z zset, z zrange⟩
  refine ⟨PySem.W.fnOf "law" "law" (defArgs sLaw) (defBody sLaw) (defScope sLaw) .none kVL dcL pmL anL cdL ctL, fun s v => .of_eq rfl, fun base _ _ => ?_⟩
  have M0 : Mk1 P w K mg base "NoKind" C0 "name" := ⟨m a0, E0', n0name, f0, _, j0, t0, ok_ini_NoKind F0 TE E0'.oex n0name, B0⟩
  have GB : FnOk P w K mg base CX0 1 fB _ ["_law_script"] (spBag K) := ok_bag FB TA
  have CB : Cal P w K mg base 1 "_law_bag" ["_law_script"] (spBag K) := ⟨fB, _, m aB, BB, kB, GB⟩
  have GT : FnOk P w K mg base CX0 1 fT _ ["_law_bag_here", "_law_upto"] spTake := ok_take FT TA
  have CT : Cal P w K mg base 1 "_law_take" ["_law_bag_here", "_law_upto"] spTake := ⟨fT, _, m aT, BT, kT, GT⟩
  have GS : FnOk P w K mg base CX0 2 fS _ ["_law_bag_here", "_law_things"] (spSome K) := ok_some FS TB FT BT
  have CS : Cal P w K mg base 2 "_law_some" ["_law_bag_here", "_law_things"] (spSome K) := ⟨fS, _, m aS, BS, kS, GS⟩
  have GM : FnOk P w K mg base CX0 2 fM _ ["_law_bag_here", "_law_things"] spMixed := ok_mixed FM TB FT BT
  have CM : Cal P w K mg base 2 "_law_mixed" ["_law_bag_here", "_law_things"] spMixed := ⟨fM, _, m aM, BM, kM, GM⟩
  have GNa : FnOk P w K mg base CX0 3 fNa _ ["_law_bag_here", "_law_many"] spNamed := ok_named FNa ⟨TB, m aM, BM, kM, z ztuple, z zsorted⟩ GM
  have CNa : Cal P w K mg base 3 "_law_named" ["_law_bag_here", "_law_many"] spNamed := ⟨fNa, _, m aNa, BNa, kNa, GNa⟩
  have GNb : FnOk P w K mg base CX0 3 fNb _ ["_law_bag_here"] spNumbers := ok_numbers FNb TG GS GT BT
  have CNb : Cal P w K mg base 3 "_law_numbers" ["_law_bag_here"] spNumbers := ⟨fNb, _, m aNb, BNb, kNb, GNb⟩
  have GNd : FnOk P w K mg base CX0 4 fNd _ ["_law_bag_here", "_law_rows", "_law_names"] (spNeed K) := ok_need FNd ⟨TG, BT, m aNb, BNb, kNb⟩ GS GT GNb
  have CNd : Cal P w K mg base 4 "_law_need" ["_law_bag_here", "_law_rows", "_law_names"] (spNeed K) := ⟨fNd, _, m aNd, BNd, kNd, GNd⟩
  have GGr : FnOk P w K mg base CX0 5 fGr _ ["_law_bag_here", "_law_rows", "_law_names"] (spGround K) := ok_ground FGr TG TO GS (m aNd) BNd kNd GNd
  have CGr : Cal P w K mg base 5 "_law_ground" ["_law_bag_here", "_law_rows", "_law_names"] (spGround K) := ⟨fGr, _, m aGr, BGr, kGr, GGr⟩
  have GAn : FnOk P w K mg base CX0 6 fAn _ ["_law_bag_here", "_law_kinds", "_law_rows"] (spAny K) := ok_any FAn TG TO GS GT BT (m aNa) BNa kNa GNa (m aGr) BGr kGr GGr
  have CAn : Cal P w K mg base 6 "_law_any_rulebook" ["_law_bag_here", "_law_kinds", "_law_rows"] (spAny K) := ⟨fAn, _, m aAn, BAn, kAn, GAn⟩
  have GMo : FnOk P w K mg base CX0 3 fMo _ ["_law_bag_here", "_law_sort", "_law_rows"] (spMore K) := ok_more FMo TG GS GT BT
  have CMo : Cal P w K mg base 3 "_law_more_needs" ["_law_bag_here", "_law_sort", "_law_rows"] (spMore K) := ⟨fMo, _, m aMo, BMo, kMo, GMo⟩
  have GTh : FnOk P w K mg base CX0 4 fTh _ ["_law_bag_here", "_law_kinds"] (spThreaded K) := ok_threaded FTh TG TO (z zdict) GS GT BT (m aNa) BNa kNa GNa (m aM) BM kM GM
  have CTh : Cal P w K mg base 4 "_law_threaded" ["_law_bag_here", "_law_kinds"] (spThreaded K) := ⟨fTh, _, m aTh, BTh, kTh, GTh⟩
  have GPl : FnOk P w K mg base CX0 6 fPl _ ["_law_bag_here", "_law_sort", "_law_kinds"] (spPlanted K) := ok_planted FPl TG TO (z zlist) GS GT BT (m aNa) BNa kNa GNa (m aMo) BMo kMo GMo (m aGr) BGr kGr GGr
  have CPl : Cal P w K mg base 6 "_law_planted" ["_law_bag_here", "_law_sort", "_law_kinds"] (spPlanted K) := ⟨fPl, _, m aPl, BPl, kPl, GPl⟩
  have GRu : FnOk P w K mg base CX0 7 fRu _ ["_law_bag_here", "_law_kinds"] (spRule K) := ok_rule FRu TO CT CS CM CAn CTh CPl
  have CRu : Cal P w K mg base 7 "_law_rulebook" ["_law_bag_here", "_law_kinds"] (spRule K) := ⟨fRu, _, m aRu, BRu, kRu, GRu⟩
  have GKo : FnOk P w K mg base (L2.CX P w) 3 fKo _ ["rulebook", "name"] (spKof K C0) := ok_kof FKo M0
  have CKo : CalX P w K mg base 3 "kind_of" ["rulebook", "name"] (spKof K C0) := ⟨fKo, _, m aKo, BKo, kKo, GKo⟩
  have GMe : FnOk P w K mg base CX0 4 fMe _ ["rulebook", "need", "names"] (spMet K) := ok_met FMe (m gROW) CKo
  have CMe : Cal P w K mg base 4 "can_be_met" ["rulebook", "need", "names"] (spMet K) := ⟨fMe, _, m aMe, BMe, kMe, GMe⟩
  have GIb : FnOk P w K mg base CX0 5 fIb _ ["rulebook", "ground", "found", "given"] (spBear K) := ok_bear FIb (z zall) CMe
  have CIb : Cal P w K mg base 5 "is_bearing_by" ["rulebook", "ground", "found", "given"] (spBear K) := ⟨fIb, _, m aIb, BIb, kIb, GIb⟩
  have GOs : FnOk P w K mg base CX0 1 fOs _ ["need", "struck"] (spOnS K) := ok_onS FOs (m gROW)
  have COs : Cal P w K mg base 1 "is_on_struck" ["need", "struck"] (spOnS K) := ⟨fOs, _, m aOs, BOs, kOs, GOs⟩
  have GIc : FnOk P w K mg base CX0 6 fIc _ ["rulebook", "ground", "found", "struck"] (spClean K) := ok_clean FIc (z zany) CIb COs
  have CIc : Cal P w K mg base 6 "is_clean_by" ["rulebook", "ground", "found", "struck"] (spClean K) := ⟨fIc, _, m aIc, BIc, kIc, GIc⟩
  have GFp : FnOk P w K mg base CX0 2 fFp _ ["ground", "struck", "clean"] (spForced K) := ok_forced FFp (m gROW) (z zenumerate) COs
  have CFp : Cal P w K mg base 2 "forced_places" ["ground", "struck", "clean"] (spForced K) := ⟨fFp, _, m aFp, BFp, kFp, GFp⟩
  have GIa : FnOk P w K mg base CX0 6 fIa _ ["rulebook", "ground", "found", "given"] (spAble K) := ok_able FIa (m gROW) (z zany) CIb CFp
  have CIa : Cal P w K mg base 6 "is_able_by" ["rulebook", "ground", "found", "given"] (spAble K) := ⟨fIa, _, m aIa, BIa, kIa, GIa⟩
  have GGk : FnOk P w K mg base CX0 7 fGk _ ["rulebook", "is_right", "given"] (spGrown P w K mg base) := ok_grown FGk (z zany) (z ztuple) (z zsorted)
  have CGk : Cal P w K mg base 7 "grown_kinds" ["rulebook", "is_right", "given"] (spGrown P w K mg base) := ⟨fGk, _, m aGk, BGk, kGk, GGk⟩
  have GBk : FnOk P w K mg base CX0 8 fBk _ ["rulebook"] (spBearK K) := ok_bearK (fr := fBk) FBk CGk CIb
  have CBk : Cal P w K mg base 8 "bearing_kinds" ["rulebook"] (spBearK K) := ⟨fBk, _, m aBk, BBk, kBk, GBk⟩
  have GCk : FnOk P w K mg base CX0 8 fCk _ ["rulebook", "struck"] (spCleanK K) := ok_cleanK FCk CGk CIc
  have CCk : Cal P w K mg base 8 "clean_kinds" ["rulebook", "struck"] (spCleanK K) := ⟨fCk, _, m aCk, BCk, kCk, GCk⟩
  have GAk : FnOk P w K mg base CX0 9 fAk _ ["rulebook", "struck"] (spAbleK K) := ok_ableK FAk CGk CIa CCk CBk
  have CAk : Cal P w K mg base 9 "able_kinds" ["rulebook", "struck"] (spAbleK K) := ⟨fAk, _, m aAk, BAk, kAk, GAk⟩
  have GKr : FnOk P w K mg base CX0 10 fKr _ ["rulebook", "row"] (spReach K) := ok_reach FKr CAk
  have CKr : Cal P w K mg base 10 "kinds_reached" ["rulebook", "row"] (spReach K) := ⟨fKr, _, m aKr, BKr, kKr, GKr⟩
  have GAl : FnOk P w K mg base CX0 1 fAl _ ["things"] (spAllL K) := ok_allL FAl (z zsorted) (z zlen)
  have CAl : Cal P w K mg base 1 "all_lots" ["things"] (spAllL K) := ⟨fAl, _, m aAl, BAl, kAl, GAl⟩
  have GLl : FnOk P w K mg base CX0 1 fLl _ ["lots"] (spLeastL K) := ok_leastL FLl (z zsorted) (z zany) (z zall)
  have CLl : Cal P w K mg base 1 "least_lots" ["lots"] (spLeastL K) := ⟨fLl, _, m aLl, BLl, kLl, GLl⟩
  have GRb : FnOk P w K mg base CX0 1 fRb _ ["rulebook", "lot"] (spBut K) := ok_but FRb (z ztuple)
  have CRb : Cal P w K mg base 1 "rows_but" ["rulebook", "lot"] (spBut K) := ⟨fRb, _, m aRb, BRb, kRb, GRb⟩
  have GPs : FnOk P w K mg base CX0 9 fPs _ ["rulebook", "name"] (spSupP K) := ok_supP FPs CAl CCk CRb CLl
  have CPs : Cal P w K mg base 9 "least_supports" ["rulebook", "name"] (spSupP K) := ⟨fPs, _, m aPs, BPs, kPs, GPs⟩
  have GPc : FnOk P w K mg base CX0 9 fPc _ ["rulebook", "name"] (spChkP K) := ok_chkP FPc CAl CCk CBk CLl
  have CPc : Cal P w K mg base 9 "least_chokes" ["rulebook", "name"] (spChkP K) := ⟨fPc, _, m aPc, BPc, kPc, GPc⟩
  have GKf : FnOk P w K mg base CX0 1 fKf _ ["_law_rulebook_here"] (spKindsOf K) := ok_kindsOf FKf (z zdict)
  have CKf : Cal P w K mg base 1 "_law_kinds_of" ["_law_rulebook_here"] (spKindsOf K) := ⟨fKf, _, m aKf, BKf, kKf, GKf⟩
  have GIm : FnOk P w K mg base CX0 1 fIm _ ["_law_kinds", "_law_found", "_law_ground_here"] (spIsMet K) := ok_isMet FIm
  have CIm : Cal P w K mg base 1 "_law_is_met" ["_law_kinds", "_law_found", "_law_ground_here"] (spIsMet K) := ⟨fIm, _, m aIm, BIm, kIm, GIm⟩
  have GBe : FnOk P w K mg base CX0 2 fBe _ ["_law_rulebook_here"] (spBearing K) := ok_bearing FBe (z zrange) (z zlen) (z zsorted) CKf CIm
  have CBe : Cal P w K mg base 2 "_law_bearing" ["_law_rulebook_here"] (spBearing K) := ⟨fBe, _, m aBe, BBe, kBe, GBe⟩
  have GLi : FnOk P w K mg base CX0 3 fLi _ ["_law_rulebook_here"] (spLive K) := ok_live FLi (z zrange) (z zlen) (z zsorted) CKf CIm CBe
  have CLi : Cal P w K mg base 3 "_law_live" ["_law_rulebook_here"] (spLive K) := ⟨fLi, _, m aLi, BLi, kLi, GLi⟩
  have GCl : FnOk P w K mg base CX0 4 fCl _ ["_law_rulebook_here", "_law_struck"] (spCleanL K) := ok_cleanL FCl (z zrange) (z zlen) (z zsorted) (z zint) CKf CLi
  have CCl : Cal P w K mg base 4 "_law_clean" ["_law_rulebook_here", "_law_struck"] (spCleanL K) := ⟨fCl, _, m aCl, BCl, kCl, GCl⟩
  have GFo : FnOk P w K mg base CX0 1 fFo _ ["_law_struck", "_law_clean_here", "_law_ground_here"] (spForced2 K) := ok_forced2 FFo (z zrange) (z zlen) (z zint)
  have CFo : Cal P w K mg base 1 "_law_forced" ["_law_struck", "_law_clean_here", "_law_ground_here"] (spForced2 K) := ⟨fFo, _, m aFo, BFo, kFo, GFo⟩
  have GAb : FnOk P w K mg base CX0 5 fAb _ ["_law_rulebook_here", "_law_struck"] (spAbleL K) := ok_ableL FAb (z zrange) (z zlen) (z zsorted) (z zint) CKf CLi CCl CFo
  have CAb : Cal P w K mg base 5 "_law_able" ["_law_rulebook_here", "_law_struck"] (spAbleL K) := ⟨fAb, _, m aAb, BAb, kAb, GAb⟩
  have GLt : FnOk P w K mg base CX0 1 fLt _ ["_law_things"] (spLots2 K) := ok_lots2 FLt (z zsorted)
  have CLt : Cal P w K mg base 1 "_law_lots_of" ["_law_things"] (spLots2 K) := ⟨fLt, _, m aLt, BLt, kLt, GLt⟩
  have GWi : FnOk P w K mg base CX0 1 fWi _ ["_law_lot", "_law_other"] (spWithin K) := ok_within FWi
  have CWi : Cal P w K mg base 1 "_law_within" ["_law_lot", "_law_other"] (spWithin K) := ⟨fWi, _, m aWi, BWi, kWi, GWi⟩
  have GPa : FnOk P w K mg base CX0 1 fPa _ ["_law_rulebook_here", "_law_lot"] (spPart K) := ok_part FPa (z ztuple) (z zint)
  have CPa : Cal P w K mg base 1 "_law_part_by_rows" ["_law_rulebook_here", "_law_lot"] (spPart K) := ⟨fPa, _, m aPa, BPa, kPa, GPa⟩
  have GLe : FnOk P w K mg base CX0 2 fLe _ ["_law_lots"] (spLeastOf K) := ok_leastOf FLe (z zsorted) CWi
  have CLe : Cal P w K mg base 2 "_law_least_of" ["_law_lots"] (spLeastOf K) := ⟨fLe, _, m aLe, BLe, kLe, GLe⟩
  have GLs : FnOk P w K mg base CX0 3 fLs _ ["_law_rulebook_here", "_law_name"] (spSupL K) := ok_supL FLs CLt CPa CBe CLe
  have CLs : Cal P w K mg base 3 "_law_supports" ["_law_rulebook_here", "_law_name"] (spSupL K) := ⟨fLs, _, m aLs, BLs, kLs, GLs⟩
  have GLc : FnOk P w K mg base CX0 5 fLc _ ["_law_rulebook_here", "_law_name"] (spChkL K) := ok_chkL FLc CLt CCl CBe CLe
  have CLc : Cal P w K mg base 5 "_law_chokes" ["_law_rulebook_here", "_law_name"] (spChkL K) := ⟨fLc, _, m aLc, BLc, kLc, GLc⟩
  have CA : CalG P w K mg base NoGuard 1 "_law_alike" ["_law_found", "_law_due"] (spAlikeX K) := ⟨fA, _, m aA, BA, kA, ok_alikeX FA (z zrepr)⟩
  have CLr : CalG P w K mg base NoGuardC 11 "_law_are_lots_right" ["_law_rulebook_here"] (spALR K) := ⟨fLr, _, m aLr, BLr, kLr, ok_ALR FLr (z zrepr) (z zsorted) (z zrange) (z ztuple) CKf CLs CLc CAb CPs CPc CKr CA⟩
  exact ok_law (fun_mk (st := sLaw) lL cL kL) (z zrange) CB CRu CAn CM CLr
end
end Gy

namespace Gy
open PySem L2 PySem.Spec PyProof.Rows
/-- the walk of the law's row -/
theorem walk {l : PySem.W.OpenLaw} {q : Program} {loose : List Str} {XP : (Str → Option Value) → Heap → Prop} {YP : World → Heap → Prop} {d : DefRec} {K : Params → PySem.W.Frag} (most : l.most = some 63) (dfl : d.params.defaults = [])
    (inn : ∀ (w : World) (h : Heap), YP w h → (K w.params).In h)
    (F : ∀ (w : World) (mg : Str → Option Value) (fa : Addr) (h : Heap), (K w.params).In h → h.Ns mainGlobals mg → mg d.name = some (.ref fa) →
      ∃ fd : FuncData, (∀ (s : Shared) (v : Value), BindsTo s fd ⟨[v], []⟩ [("_law_script", v)]) ∧ ∀ base : Heap, (K w.params).In base → base.Ns mainGlobals mg → FnG NoGuardC l.prog w (K w.params) mg base 12 fa fd ["_law_script"] (spLaw (K w.params))) :
    PySem.W.WalkO q loose XP YP l.row.toRowW d [] (fun f vs => PySem.call f vs) := by
  refine Att.attach_call most dfl fun w t s mg mb fa o pm cd doc a vs ns G Y ho hd hcd hmg obj hint len gn => ?_
  have kx := inn w _ Y
  obtain ⟨fd, bind, promise⟩ := F w mg fa _ kx G.T.g hmg
  exact head_call kx G.T.g G.T.b G.T.builtins G.T.nolimit gn obj hint (Nat.le_trans len (by decide)) (fun u => bind s u) promise
end Gy

open PySem PySem.W PyProof.Rows in
set_option maxRecDepth 100000 in
set_option maxHeartbeats 0 in
theorem PySem.Challenge.cw_goneyet_k22_least_lots_of_rows_holds : PySem.Challenge.rw_goneyet_k22_least_lots_of_rows.Holds := by
  w_on; o_law; k_head; (case hw => w_witness2)
  k_fill
  refine Gy.walk (l := PySem.Challenge.rw_goneyet_k22_least_lots_of_rows) rfl rfl (fun w h Y => PySem.W.kIn_of Y) ?F
  case F =>
    intro w mg fa h KX G hmg
    refine' Gy.all_mk KX G hmg ?gG ?rG ?sG ?iG ?a0 ?x0L ?j0 ?t0 ?l0 ?c0 ?k0 ?n0name ?gROW ?aKo ?lKo ?cKo ?kKo ?aMe ?lMe ?cMe ?kMe ?aGk ?lGk ?cGk ?kGk ?aIb ?lIb ?cIb ?kIb ?aBk ?lBk ?cBk ?kBk ?aOs ?lOs ?cOs ?kOs ?aIc ?lIc ?cIc ?kIc ?aCk ?lCk ?cCk ?kCk ?aFp ?lFp ?cFp ?kFp ?aIa ?lIa ?cIa ?kIa ?aAk ?lAk ?cAk ?kAk ?aKr ?lKr ?cKr ?kKr ?aAl ?lAl ?cAl ?kAl ?aLl ?lLl ?cLl ?kLl ?aRb ?lRb ?cRb ?kRb ?aPs ?lPs ?cPs ?kPs ?aPc ?lPc ?cPc ?kPc ?aB ?lB ?cB ?kB ?aT ?lT ?cT ?kT ?aS ?lS ?cS ?kS ?aA ?lA ?cA ?kA ?aM ?lM ?cM ?kM ?aNa ?lNa ?cNa ?kNa ?aNb ?lNb ?cNb ?kNb ?aNd ?lNd ?cNd ?kNd ?aGr ?lGr ?cGr ?kGr ?aAn ?lAn ?cAn ?kAn ?aPl ?lPl ?cPl ?kPl ?aMo ?lMo ?cMo ?kMo ?aTh ?lTh ?cTh ?kTh ?aRu ?lRu ?cRu ?kRu ?aKf ?lKf ?cKf ?kKf ?aBe ?lBe ?cBe ?kBe ?aIm ?lIm ?cIm ?kIm ?aLi ?lLi ?cLi ?kLi ?aCl ?lCl ?cCl ?kCl ?aFo ?lFo ?cFo ?kFo ?aAb ?lAb ?cAb ?kAb ?aLt ?lLt ?cLt ?kLt ?aWi ?lWi ?cWi ?kWi ?aPa ?lPa ?cPa ?kPa ?aLe ?lLe ?cLe ?kLe ?aLs ?lLs ?cLs ?kLs ?aLc ?lLc ?cLc ?kLc ?aLr ?lLr ?cLr ?kLr ?aL ?lL ?cL ?kL ?zint ?zabs ?zlen ?zrepr ?zrange ?zlist ?ztuple ?zsorted ?zset ?zdict ?zenumerate ?zany ?zall ?bX
    (case gG => k_is); (case rG => k_is); (case sG => k_is); (case iG => k_is); (case a0 => k_is); (case x0L => k_is)
    (case j0 => k_is); (case t0 => k_is); (case l0 => k_is); (case c0 => k_is); (case k0 => k_is); (case n0name => k_is)
    (case gROW => k_is); (case aKo => k_is); (case lKo => k_is); (case cKo => k_is); (case kKo => k_is); (case aMe => k_is)
    (case lMe => k_is); (case cMe => k_is); (case kMe => k_is); (case aGk => k_is); (case lGk => k_is); (case cGk => k_is)
    (case kGk => k_is); (case aIb => k_is); (case lIb => k_is); (case cIb => k_is); (case kIb => k_is); (case aBk => k_is)
    (case lBk => k_is); (case cBk => k_is); (case kBk => k_is); (case aOs => k_is); (case lOs => k_is); (case cOs => k_is)
    (case kOs => k_is); (case aIc => k_is); (case lIc => k_is); (case cIc => k_is); (case kIc => k_is); (case aCk => k_is)
    (case lCk => k_is); (case cCk => k_is); (case kCk => k_is); (case aFp => k_is); (case lFp => k_is); (case cFp => k_is)
    (case kFp => k_is); (case aIa => k_is); (case lIa => k_is); (case cIa => k_is); (case kIa => k_is); (case aAk => k_is)
    (case lAk => k_is); (case cAk => k_is); (case kAk => k_is); (case aKr => k_is); (case lKr => k_is); (case cKr => k_is)
    (case kKr => k_is); (case aAl => k_is); (case lAl => k_is); (case cAl => k_is); (case kAl => k_is); (case aLl => k_is)
    (case lLl => k_is); (case cLl => k_is); (case kLl => k_is); (case aRb => k_is); (case lRb => k_is); (case cRb => k_is)
    (case kRb => k_is); (case aPs => k_is); (case lPs => k_is); (case cPs => k_is); (case kPs => k_is); (case aPc => k_is)
    (case lPc => k_is); (case cPc => k_is); (case kPc => k_is); (case aB => k_is); (case lB => k_is); (case cB => k_is)
    (case kB => k_is); (case aT => k_is); (case lT => k_is); (case cT => k_is); (case kT => k_is); (case aS => k_is)
    (case lS => k_is); (case cS => k_is); (case kS => k_is); (case aA => k_is); (case lA => k_is); (case cA => k_is)
    (case kA => k_is); (case aM => k_is); (case lM => k_is); (case cM => k_is); (case kM => k_is); (case aNa => k_is)
    (case lNa => k_is); (case cNa => k_is); (case kNa => k_is); (case aNb => k_is); (case lNb => k_is); (case cNb => k_is)
    (case kNb => k_is); (case aNd => k_is); (case lNd => k_is); (case cNd => k_is); (case kNd => k_is); (case aGr => k_is)
    (case lGr => k_is); (case cGr => k_is); (case kGr => k_is); (case aAn => k_is); (case lAn => k_is); (case cAn => k_is)
    (case kAn => k_is); (case aPl => k_is); (case lPl => k_is); (case cPl => k_is); (case kPl => k_is); (case aMo => k_is)
    (case lMo => k_is); (case cMo => k_is); (case kMo => k_is); (case aTh => k_is); (case lTh => k_is); (case cTh => k_is)
    (case kTh => k_is); (case aRu => k_is); (case lRu => k_is); (case cRu => k_is); (case kRu => k_is); (case aKf => k_is)
    (case lKf => k_is); (case cKf => k_is); (case kKf => k_is); (case aBe => k_is); (case lBe => k_is); (case cBe => k_is)
    (case kBe => k_is); (case aIm => k_is); (case lIm => k_is); (case cIm => k_is); (case kIm => k_is); (case aLi => k_is)
    (case lLi => k_is); (case cLi => k_is); (case kLi => k_is); (case aCl => k_is); (case lCl => k_is); (case cCl => k_is)
    (case kCl => k_is); (case aFo => k_is); (case lFo => k_is); (case cFo => k_is); (case kFo => k_is); (case aAb => k_is)
    (case lAb => k_is); (case cAb => k_is); (case kAb => k_is); (case aLt => k_is); (case lLt => k_is); (case cLt => k_is)
    (case kLt => k_is); (case aWi => k_is); (case lWi => k_is); (case cWi => k_is); (case kWi => k_is); (case aPa => k_is)
    (case lPa => k_is); (case cPa => k_is); (case kPa => k_is); (case aLe => k_is); (case lLe => k_is); (case cLe => k_is)
    (case kLe => k_is); (case aLs => k_is); (case lLs => k_is); (case cLs => k_is); (case kLs => k_is); (case aLc => k_is)
    (case lLc => k_is); (case cLc => k_is); (case kLc => k_is); (case aLr => k_is); (case lLr => k_is); (case cLr => k_is)
    (case kLr => k_is); (case aL => k_is); (case lL => k_is); (case cL => k_is); (case kL => k_is); (case zint => k_is)
    (case zabs => k_is); (case zlen => k_is); (case zrepr => k_is); (case zrange => k_is); (case zlist => k_is); (case ztuple => k_is)
    (case zsorted => k_is); (case zset => k_is); (case zdict => k_is); (case zenumerate => k_is); (case zany => k_is); (case zall => k_is)
    (case bX => kernel_rfl)

