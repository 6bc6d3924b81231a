import PyProof.Rows.All
import Wide.All
import OpenK.AllK
import Wide.FinOn
import HandS.ForMost
import HandS.Exc
import HandS.Codes
import HandS.HotCalls
import KE.KExcIs
import HandS.ExcInit
import HandS.ExcValue
import PyProof.ExcRepr
import PyProof.ExcStrAll.ValueError
import PyProof.ReprReads
import PyProof.StrHeap
import HandS.DeepEq
import HandS.RaiseMore
import KE.KEqNest
import HandS.ExcField
import HandS.ExcIs
import HandS.TryOnly
import HandS.WordsExc
import KE.KeyNested
import KE.SortData
import HandS.TupSets
import HandS.More
import HandS.Conv
import KE.GoesEnum
import HandS.Walk
import HandS.TupAny
import PyProof.ReprLen
import PyProof.IsiHeapPairs
import HandS.Strs
import HandS.WrittenGet
import HandS.IsInst
import HandS.IterVal
import HandS.Small
import KE.KEqDict
import HandS.Star
import HandS.Style
import HandS.Zip
import HandS.Steps
import HandS.HeadHook3
import PySem.Challenge.RW_goneyet_k23_trees_told
set_option Elab.async false
set_option linter.all false
set_option maxRecDepth 100000
set_option maxHeartbeats 4000000
namespace Gy
open PySem L2
def top (i : Nat) : Stmt := PySem.Challenge.pw_goneyet_k23_trees_told.main.body.getD i (.Pass ⟨0, 0, 0, 0⟩)
abbrev sBag : Stmt := top 31
abbrev sTake : Stmt := top 32
abbrev sSome : Stmt := top 33
/-- all that stood but what is at b stands as it was -/
def Ext (b : Addr) (H H' : Hp) : Prop := ∀ a o, a ≠ b → H a = some o → H' a = some o
theorem Ext.refl (b : Addr) (H : Hp) : Ext b H H := fun _ _ _ h => h
theorem Ext.trans {b : Addr} {H H1 H2 : Hp} (x : Ext b H H1) (y : Ext b H1 H2) : Ext b H H2 := fun a o n h => y a o n (x a o n h)
theorem Ext.new {b : Addr} {H H1 : Hp} {p : Addr} {o : HO} (x : Ext b H H1) (hp : H1 p = none) : Ext b H (upd H1 p o) := fun a u n h => by
  have q := x a u n h
  rw [upd_ne (ne_of_none q hp)]; exact q
theorem Ext.put {b : Addr} {H H1 : Hp} {o : HO} (x : Ext b H H1) : Ext b H (upd H1 b o) := fun a u n h => by
  rw [upd_ne n]; exact x a u n h
/-- the bag at b, its cells at c -/
structure BagAt (H : Hp) (b c : Addr) (x0 x1 x2 : Int) (ns : List Int) : Prop where
  hb : H b = some (.lst [.int x0, .int x1, .int x2, .ref c])
  hc : H c = some (.lst (ns.map V.int))
  p0 : 0 ≤ x0
  p1 : 0 ≤ x1
  q1 : x1 < 2147483647
  p2 : 0 ≤ x2
  pc : ∀ n ∈ ns, 0 ≤ n
  lc : ns.length ≤ 63
def BagC (c : Addr) (H : Hp) (b : Addr) : Prop := ∃ x0 x1 x2 ns, BagAt H b c x0 x1 x2 ns
def Bag (H : Hp) (b : Addr) : Prop := ∃ c, BagC c H b
theorem BagAt.ne {H : Hp} {b c : Addr} {x0 x1 x2 : Int} {ns : List Int} (h : BagAt H b c x0 x1 x2 ns) : c ≠ b := fun e => by
  have h1 := h.hb
  have h2 := h.hc
  rw [e, h1] at h2
  have h3 := Option.some.inj h2
  injection h3 with h4
  match ns, h4 with
  | [_, _, _, d], h4 => injection h4 with _ h4; injection h4 with _ h4; injection h4 with _ h4; injection h4 with h4 _; cases h4
theorem BagAt.new {H : Hp} {b c : Addr} {x0 x1 x2 : Int} {ns : List Int} (h : BagAt H b c x0 x1 x2 ns) {p : Addr} {o : HO} (hp : H p = none) : BagAt (upd H p o) b c x0 x1 x2 ns :=
  ⟨by rw [upd_ne (ne_of_none h.hb hp)]; exact h.hb, by rw [upd_ne (ne_of_none h.hc hp)]; exact h.hc, h.p0, h.p1, h.q1, h.p2, h.pc, h.lc⟩
theorem BagAt.put {H : Hp} {b c : Addr} {x0 x1 x2 y0 y1 y2 : Int} {ns : List Int} (h : BagAt H b c x0 x1 x2 ns) (a0 : 0 ≤ y0) (a1 : 0 ≤ y1) (a2 : y1 < 2147483647) (a3 : 0 ≤ y2) :
    BagAt (upd H b (.lst [.int y0, .int y1, .int y2, .ref c])) b c y0 y1 y2 ns :=
  ⟨upd_same, by rw [upd_ne h.ne]; exact h.hc, a0, a1, a2, a3, h.pc, h.lc⟩
theorem Bag.new {H : Hp} {b : Addr} (h : Bag H b) {p : Addr} {o : HO} (hp : H p = none) : Bag (upd H p o) b := by
  obtain ⟨c, x0, x1, x2, ns, h⟩ := h
  exact ⟨c, x0, x1, x2, ns, h.new hp⟩
structure TxtA (mg : Str → Option Value) : Prop where
  int : mg "int" = none
  abs : mg "abs" = none
  len : mg "len" = none
def spBag (K : PySem.W.Frag) : Sp := fun vs H Q _ => ∃ (a : Addr) (ns : List Int), vs = [.ref a] ∧ SqL K H a (ns.map V.int) ∧ ∀ (H' : Hp) (b : Addr), Same H H' → H b = none → Bag H' b → Q (.ref b) H'
def spTake : Sp := fun vs H Q _ => ∃ (b c : Addr) (n : Int), vs = [.ref b, .int n] ∧ 0 < n ∧ n < 1000000000 ∧ BagC c H b ∧ ∀ (r : Int) (H' : Hp), 0 ≤ r → r < n → Ext b H H' → BagC c H' b → Q (.int r) H'
/-- a list or a tuple -/
def SqQ (H : Hp) (l : Addr) (xs : List V) : Prop := H l = some (.lst xs) ∨ H l = some (.tup xs)
theorem SqQ.ext {b l : Addr} {H H' : Hp} {xs : List V} (h : SqQ H l xs) (hb : l ≠ b) (e : Ext b H H') : SqQ H' l xs := h.imp (e _ _ hb) (e _ _ hb)
theorem SqQ.seq {K : PySem.W.Frag} {l : Addr} {H : Hp} {xs : List V} (h : SqQ H l xs) : SqL K H l xs ∨ SqT K H l xs := h.imp SqL.of SqT.of
def spSome (K : PySem.W.Frag) : Sp := fun vs H Q _ => ∃ (b c l : Addr) (xs : List V), vs = [.ref b, .ref l] ∧ l ≠ b ∧ SqQ H l xs ∧ 0 < xs.length ∧ xs.length < 1000000000 ∧ BagC c H b ∧
  ∀ (v : V) (H' : Hp), v ∈ xs → Ext b H H' → BagC c H' b → Q v H'
theorem get_list {X : Cx} : PGet X (rIxL X.K) := by
  intro pins s σ H o i ov iv Q I ro ri h
  obtain ⟨p, xs, k, z, rfl, rfl, hq, he, q⟩ := h
  cases ro
  obtain ⟨t, rfl⟩ := ri
  obtain ⟨its, r, pl, hz⟩ := I.list hq
  obtain ⟨j, h1, h2, h3, h4, h5⟩ := atI_get he
  obtain ⟨w, ew, rw'⟩ := r.get h2
  have hl := r.length
  have hn := line63
  have fin : EP X pins σ Q w s := ⟨z, H, I, rw', q⟩
  by_cases h0 : 0 ≤ k
  · have hj : k.toNat = j := by
      rw [seqIndex_of h0 h5] at h1
      exact Option.some.inj h1
    exact wpAny_getItem_list pl.isList h0 (by omega) (by rw [hj]; simpa using ew) fin
  · have hj : (k + (its.toArray.size : Int)).toNat = j := by
      rw [seqIndex_neg (by omega) h4] at h1
      rw [List.size_toArray, ← hl]
      exact Option.some.inj h1
    exact wpAny_getItem_list_neg pl.isList (by omega) (by rw [List.size_toArray] <;> omega) (by omega) (by rw [hj]; simpa using ew) fin
end Gy

namespace Gy
open PySem L2
section
variable {P : Program} {w : World} {K : PySem.W.Frag} {mg : Str → Option Value} {base : Heap}
theorem nz1 : (2147483647 : Int) ≠ 0 := by decide
theorem nz2 : (1000000007 : Int) ≠ 0 := by decide
theorem nz3 : (998244353 : Int) ≠ 0 := by decide
theorem scTake : FnScope ["_law_bag_here", "_law_upto", "_law_cell", "_law_stirred", "_law_value", "_law_begin", "_law_second"] ["_law_bag_here", "_law_upto"] (defScope sTake) := ⟨rfl, rfl, rfl, by decide +kernel, rfl, by decide +kernel, by decide +kernel⟩
theorem ok_take {f : Addr} {fd : FuncData} (F : Fun K "_law_take" "_law_take" sTake f fd) (T : TxtA mg) : FnOk P w K mg base CX0 1 f fd ["_law_bag_here", "_law_upto"] spTake := by
  refine F.ok scTake (fun vs H Q E h => ?_) (fun cdv A outer s H vs Q E hr h => ?_)
  · obtain ⟨b, c, n, rfl, _⟩ := h
    rfl
  · obtain ⟨b, c, n, rfl, n0, n1, B, k⟩ := h
    have nd := scTake.nd
    refine ⟨_, C8.pss_cut (ps_if (pt_cmpR op_eq (pe_ix ix_list (pv 0) pe_int (fun _ _ => rfl)) pe_int (nomark _))
        (pss_cons (ps_set (i := 2) nd rfl (Or.inl rfl) (pe_ix ix_list (pe_op op_cat (pe_slice sl_list (pe_ix ix_list (pv 0) pe_int (fun _ _ => rfl)) (po_some (pe_ix ix_list (pv 0) pe_int (fun _ _ => rfl))) po_none) (pe_lst (pa_cons pe_int pa_nil))) pe_int (fun _ _ => rfl)))
        (pss_cons (ps_augS (pv 0) pe_int get_list pe_int ip_add set_list)
        (C8.pss_cut (ps_if (pt_cmpR op_ge (pv 2) (pe_op op_pow pe_int pe_int) (nomark _)) (pss_one (ps_asg (pv 2) (pg_sub (pv 0) pe_int set_list))) pss_nil)
        (pss_cons (ps_set (i := 3) nd rfl (Or.inl rfl) (pe_op op_add (pe_op op_add (pe_op op_mul (pe_ix ix_list (pv 0) pe_int (fun _ _ => rfl)) pe_int) (pe_op op_modN (pe_callTy call_int1 (by rfl) T.int (by decide +kernel) (pa_cons (pv 2) pa_nil)) pe_int)) (pe_op op_mul pe_int (pe_ix ix_list (pv 0) pe_int (fun _ _ => rfl)))))
        (pss_one (ps_asg (pe_op op_modN (pe_callTy call_int1 (by rfl) T.int (by decide +kernel) (pa_cons (pv 3) pa_nil)) pe_int) (pg_sub (pv 0) pe_int set_list)))))))
        pss_nil)
      (pss_cons (ps_if (pt_cmpR op_gt (pe_ix ix_list (pv 0) pe_int (fun _ _ => rfl)) pe_int (nomark _))
        (pss_cons (ps_set (i := 4) nd rfl (Or.inl rfl) (pe_op op_modN (pe_callTy call_int1 (by rfl) T.int (by decide +kernel) (pa_cons (pe_ix ix_list (pv 0) pe_int (fun _ _ => rfl)) pa_nil)) (pv 1)))
        (pss_cons (ps_asg (pe_op op_fdivN (pe_callTy call_int1 (by rfl) T.int (by decide +kernel) (pa_cons (pe_ix ix_list (pv 0) pe_int (fun _ _ => rfl)) pa_nil)) (pv 1)) (pg_sub (pv 0) pe_int set_list))
        (pss_one (ps_ret (pv 4)))))
        pss_nil)
      (pss_cons (ps_set (i := 5) nd rfl (Or.inl rfl) (pe_op op_modN (pe_callTy call_int1 (by rfl) T.int (by decide +kernel) (pa_cons (pe_op op_mul (pe_op op_add (pe_ix ix_list (pv 0) pe_int (fun _ _ => rfl)) pe_int) pe_int) pa_nil)) pe_int))
      (pss_cons (ps_set (i := 6) nd rfl (Or.inl rfl) (pe_op op_modN (pe_callTy call_int1 (by rfl) T.int (by decide +kernel) (pa_cons (pe_op op_mul (pe_op op_modN (pe_callTy call_int1 (by rfl) T.int (by decide +kernel) (pa_cons (pe_op op_mul (pv 5) (pv 5)) pa_nil)) pe_int) pe_int) pa_nil)) pe_int))
      (pss_one (ps_ret (pe_op op_modN (pe_callTy call_int1 (by rfl) T.int (by decide +kernel) (pa_cons (pe_op op_fdivN (pv 6) pe_int) pa_nil)) (pv 1))))))), ?_⟩
    obtain ⟨x0, x1, x2, ns, B0⟩ := B
    let Mid : St → Hp → Prop := fun σ H' => (∃ v2 v3 v4 v5 v6, σ = [some (.ref b), some (.int n), v2, v3, v4, v5, v6]) ∧ Ext b H H' ∧ ∃ y0 y1 y2, BagAt H' b c y0 y1 y2 ns
    refine ⟨Mid, ?_, ?_⟩
    · -- the first if
      refine ⟨_, rfl, _, _, _, _, rfl, rfl, SqL.of B0.hb, rfl, rfl, _, rfl, ?_⟩
      refine ite2 (fun _ => ?_) (fun _ => ⟨⟨_, _, _, _, _, rfl⟩, Ext.refl _ _, _, _, _, B0⟩)
      -- _law_cell = (bag[3][bag[2]:] + [0])[0]
      refine ⟨_, rfl, _, _, _, _, rfl, rfl, SqL.of B0.hb, rfl, _, rfl, _, _, _, _, rfl, rfl, SqL.of B0.hb, rfl, _, rfl, c, ns.map V.int, rfl, SqL.of B0.hc, fun p hp => ?_⟩
      have B1 := B0.new (o := .lst (cutV (ns.map V.int) (some x2) none)) hp
      have e1 : Ext b H (upd H p (.lst (cutV (ns.map V.int) (some x2) none))) := (Ext.refl b H).new hp
      refine ⟨by show 1 ≤ sizeLine; decide, fun p2 hp2 => ?_⟩
      have B2 := B1.new (o := .lst [.int 0]) hp2
      have e2 := e1.new (o := .lst [.int 0]) hp2
      have n12 : p ≠ p2 := fun e => by rw [← e, upd_same] at hp2; cases hp2
      have cl : (cutV (ns.map V.int) (some x2) none).length ≤ 63 := Nat.le_trans (cutV_length _ _ _) (by rw [List.length_map]; exact B0.lc)
      refine ⟨p, p2, _, _, rfl, rfl, (upd_ne n12).trans upd_same, upd_same, Nat.le_trans (Nat.add_le_add cl (Nat.le_refl _)) (by show 64 ≤ sizeLine; decide), fun p3 hp3 => ?_⟩
      have B3 := B2.new (o := .lst (cutV (ns.map V.int) (some x2) none ++ [.int 0])) hp3
      have e3 := e2.new (o := .lst (cutV (ns.map V.int) (some x2) none ++ [.int 0])) hp3
      obtain ⟨cell, hcell, cell0⟩ : ∃ z : Int, (cutV (ns.map V.int) (some x2) none ++ [V.int 0])[0]? = some (.int z) ∧ 0 ≤ z := by
        cases hh : cutV (ns.map V.int) (some x2) none with
        | nil => exact ⟨0, rfl, Int.le_refl 0⟩
        | cons v r =>
          have hv : v ∈ cutV (ns.map V.int) (some x2) none := by rw [hh]; exact List.mem_cons_self
          have hv2 : v ∈ ns.map V.int := List.mem_of_mem_drop (List.mem_of_mem_take hv)
          obtain ⟨z, hz, rfl⟩ := List.mem_map.mp hv2
          exact ⟨z, rfl, B0.pc z hz⟩
      refine ⟨p3, _, 0, .int cell, rfl, rfl, SqL.of upd_same, atI_nat (j := 0) hcell, ?_⟩
      generalize upd (upd (upd H p (.lst (cutV (ns.map V.int) (some x2) none))) p2 (.lst [.int 0])) p3 (.lst (cutV (ns.map V.int) (some x2) none ++ [.int 0])) = H3 at B3 e3
      -- bag[2] += 1
      refine ⟨_, rfl, _, _, _, _, rfl, rfl, SqL.of B3.hb, rfl, _, _, rfl, rfl, _, _, _, _, rfl, rfl, B3.hb, rfl, ?_⟩
      have B4 := B3.put B3.p0 B3.p1 B3.q1 (Int.add_nonneg B3.p2 (by decide : (0 : Int) ≤ 1))
      have e4 := e3.put (o := .lst [.int x0, .int x1, .int (x2 + 1), .ref c])
      show C8.tCut _ _ _ _ (upd H3 b (.lst [.int x0, .int x1, .int (x2 + 1), .ref c]))
      generalize upd H3 b (.lst [.int x0, .int x1, .int (x2 + 1), .ref c]) = H4 at B4 e4
      -- if cell >= 10 ** 18: bag[0] = cell
      refine ⟨fun σ' H' => σ' = [some (.ref b), some (.int n), some (.int cell), none, none, none, none] ∧ Ext b H H' ∧ ∃ y0, BagAt H' b c y0 x1 (x2 + 1) ns, ?_, ?_⟩
      · refine ⟨_, rfl, _, _, rfl, rfl, (by show (0 : Int) ≤ 18 ∧ (18 : Int) ≤ 1000000 ∧ (10 : Int).natAbs < 2 ^ 64; decide), _, _, rfl, rfl, _, rfl, ?_⟩
        refine ite2 (fun _ => ?_) (fun _ => ⟨rfl, e4, _, B4⟩)
        refine ⟨_, rfl, _, rfl, _, _, _, _, rfl, rfl, B4.hb, rfl, rfl, e4.put, _, B4.put cell0 B4.p1 B4.q1 B4.p2⟩
      · rintro σ' H5 ⟨rfl, e5, y0, B5⟩
        have hs : 0 ≤ x1 * 48271 + cell.fmod 2147483647 + 7919 * (x2 + 1) := by
          have h1 := B5.p1
          have h2 := B5.p2
          have h3 : cell.fmod 2147483647 = cell % 2147483647 := Int.fmod_eq_emod_of_nonneg _ (by decide)
          rw [h3]
          omega
        -- stirred
        refine ⟨_, rfl, _, _, _, _, rfl, rfl, SqL.of B5.hb, rfl, _, _, rfl, rfl, .inr (by decide), _, rfl, .inl ⟨_, rfl, _, _, rfl, rfl, nz1, _, _, rfl, rfl, _, rfl, _, _, _, _, rfl, rfl, SqL.of B5.hb, rfl, _, _, rfl, rfl, .inl (by decide), _, _, rfl, rfl, ?_⟩⟩
        refine ⟨_, rfl, .inl ⟨_, rfl, _, _, rfl, rfl, nz1, _, rfl, _, _, _, _, rfl, rfl, B5.hb, rfl, ?_⟩⟩
        refine ⟨⟨_, _, _, _, _, rfl⟩, e5.put, _, _, _, B5.put B5.p0 ?_ ?_ B5.p2⟩
        · rw [Int.fmod_eq_emod_of_nonneg _ (by decide)]
          exact Int.emod_nonneg _ (by decide)
        · rw [Int.fmod_eq_emod_of_nonneg _ (by decide)]
          exact Int.emod_lt_of_pos _ (by decide)
    · -- the rest
      rintro σ H' ⟨⟨v2, v3, v4, v5, v6, rfl⟩, e0, y0, y1, y2, B1⟩
      have nn : n ≠ 0 := by omega
      refine ⟨_, rfl, _, _, _, _, rfl, rfl, SqL.of B1.hb, rfl, _, _, rfl, rfl, _, rfl, ?_⟩
      refine ite2 (fun _ => ?_) (fun _ => ?_)
      · refine ⟨_, rfl, _, _, _, _, rfl, rfl, SqL.of B1.hb, rfl, .inl ⟨_, rfl, _, rfl, _, _, rfl, rfl, nn, ?_⟩⟩
        refine ⟨_, rfl, _, _, _, _, rfl, rfl, SqL.of B1.hb, rfl, .inl ⟨_, rfl, _, rfl, _, _, rfl, rfl, ⟨nn, by omega⟩, _, rfl, _, _, _, _, rfl, rfl, B1.hb, rfl, ?_⟩⟩
        refine ⟨_, rfl, k _ _ ?_ ?_ e0.put ⟨_, _, _, ns, B1.put ?_ B1.p1 B1.q1 B1.p2⟩⟩
        · rw [Int.fmod_eq_emod_of_nonneg _ (by omega)]
          exact Int.emod_nonneg _ nn
        · rw [Int.fmod_eq_emod_of_nonneg _ (by omega)]
          exact Int.emod_lt_of_pos _ n0
        · rw [Int.fdiv_eq_ediv_of_nonneg _ (by omega)]
          exact Int.ediv_nonneg B1.p0 (by omega)
      · have q1 := B1.q1
        have p1 := B1.p1
        refine ⟨_, rfl, _, _, _, _, rfl, rfl, SqL.of B1.hb, rfl, _, _, rfl, rfl, _, _, rfl, rfl, .inr (by decide), .inl ⟨_, rfl, _, _, rfl, rfl, nz2, ?_⟩⟩
        have hb : ∀ z : Int, 0 ≤ z.fmod 1000000007 ∧ z.fmod 1000000007 < 1000000007 := fun z => by
          rw [Int.fmod_eq_emod_of_nonneg _ (by decide)]
          exact ⟨Int.emod_nonneg _ (by decide), Int.emod_lt_of_pos _ (by decide)⟩
        have hb2 := hb ((y1 + 1) * 39373)
        refine ⟨_, rfl, _, rfl, _, _, rfl, rfl, .inl ⟨by omega, by omega⟩, .inl ⟨_, rfl, _, _, rfl, rfl, nz3, _, _, rfl, rfl, .inr (by decide), .inl ⟨_, rfl, _, _, rfl, rfl, nz3, ?_⟩⟩⟩
        refine ⟨_, rfl, _, _, rfl, rfl, ⟨by decide, by decide⟩, .inl ⟨_, rfl, _, rfl, _, _, rfl, rfl, nn, k _ _ ?_ ?_ e0 ⟨_, _, _, ns, B1⟩⟩⟩
        · rw [Int.fmod_eq_emod_of_nonneg _ (by omega)]
          exact Int.emod_nonneg _ nn
        · rw [Int.fmod_eq_emod_of_nonneg _ (by omega)]
          exact Int.emod_lt_of_pos _ n0
end
end Gy

namespace Gy
open PySem L2
section
variable {P : Program} {w : World} {K : PySem.W.Frag} {mg : Str → Option Value} {base : Heap}
theorem scSome : FnScope ["_law_bag_here", "_law_things"] ["_law_bag_here", "_law_things"] (defScope sSome) := ⟨rfl, rfl, rfl, by decide +kernel, rfl, by decide +kernel, by decide +kernel⟩
structure TxtB (K : PySem.W.Frag) (mg : Str → Option Value) (fT : Addr) : Prop where
  a : TxtA mg
  gT : mg "_law_take" = some (.ref fT)
  kT : PySem.W.keepIn K (.ref fT) = true
theorem ok_some {f fT : Addr} {fd fdT : FuncData} (F : Fun K "_law_some" "_law_some" sSome f fd) (T : TxtB K mg fT) (FT : Fun K "_law_take" "_law_take" sTake fT fdT) (bT : Binds K fdT ["_law_bag_here", "_law_upto"] []) :
    FnOk P w K mg base CX0 2 f fd ["_law_bag_here", "_law_things"] (spSome K) := by
  have GT : FnOk P w K mg base CX0 1 fT fdT ["_law_bag_here", "_law_upto"] spTake := ok_take FT T.a
  refine F.ok scSome (fun vs H Q E h => ?_) (fun cdv A outer s H vs Q E hr h => ?_)
  · obtain ⟨b, c, l, xs, rfl, _⟩ := h
    rfl
  · obtain ⟨b, c, l, xs, rfl, hlb, hl, h0, h1, B, k⟩ := h
    refine ⟨_, pss_one (ps_ret (pe_ix ix_seq (pv 1) (pe_call GT hr rfl T.gT T.kT bT .nil pass0 (pa_cons (pv 0) (pa_cons (pe_callB call_len_seq (by rfl) T.a.len PySem.boot_len (pa_cons (pv 1) pa_nil)) pa_nil))) (fun _ _ => rfl))), ?_⟩
    refine ⟨_, rfl, _, rfl, _, rfl, l, _, rfl, hl.seq, b, c, _, rfl, by omega, by omega, B, fun r H' r0 r1 e B' => ?_⟩
    have hlt : r.toNat < xs.length := by omega
    have er : ((r.toNat : Nat) : Int) = r := Int.toNat_of_nonneg r0
    have q := atI_nat (xs := xs) (j := r.toNat) (v := xs[r.toNat]) (List.getElem?_eq_getElem hlt)
    rw [er] at q
    rcases hl.ext hlb e with z | z
    · exact .inl ⟨l, xs, r, _, rfl, rfl, SqL.of z, q, k _ _ (List.getElem_mem hlt) e B'⟩
    · exact .inr (.inl ⟨l, xs, r, _, rfl, rfl, SqT.of z, q, k _ _ (List.getElem_mem hlt) e B'⟩)
theorem tyes_go {σ : St} {H : Hp} {A B : Hp → Prop} (h : A H) : tYes σ H (fun b H3 => if b = true then A H3 else B H3) := iteT (B := B H) h
theorem scBag : FnScope ["_law_script", "_law_cell"] ["_law_script"] (defScope sBag) := ⟨rfl, rfl, rfl, by decide +kernel, rfl, by decide +kernel, by decide +kernel⟩
theorem ok_bag {f : Addr} {fd : FuncData} (F : Fun K "_law_bag" "_law_bag" sBag f fd) (T : TxtA mg) : FnOk P w K mg base CX0 1 f fd ["_law_script"] (spBag K) := by
  refine F.ok scBag (fun vs H Q E h => ?_) (fun cdv A outer s H vs Q E hr h => ?_)
  · obtain ⟨a, ns, rfl, _⟩ := h
    rfl
  · obtain ⟨a, ns, rfl, hS, k⟩ := h
    have nd := scBag.nd
    refine ⟨_, pss_one (ps_ret (pe_lst (pa_cons pe_int (pa_cons pe_int (pa_cons pe_int (pa_cons
      (pe_lc (own := [("_law_cell", 1)]) (g := gName 1) (tt := tYes) rfl nd (pi_list (pe_slice sl_list (pv 0) po_none (po_some pe_int))) (blkOk_by (own := [("_law_cell", 1)]) (N := ["_law_script", "_law_cell"]) (sc := defScope sBag) (by decide +kernel))
        (fun _ _ _ _ _ => pg_name (i := 1) nd rfl (Or.inl rfl)) (fun _ _ _ _ _ => pts_nil) (fun _ _ _ _ _ => pe_callB call_abs (by rfl) T.abs (by decide +kernel) (pa_cons (pv 1) pa_nil))) pa_nil)))))), ?_⟩
    refine ⟨_, rfl, _, rfl, a, ns.map V.int, rfl, hS, fun p hp => ?_⟩
    generalize hys : cutV (ns.map V.int) none (some 63) = ys
    have y63 : ys.length ≤ 63 := by
      rw [← hys]
      unfold cutV
      rw [List.length_take]
      have e : HT.sIx (ns.map V.int).length (ns.map V.int).length (some 63) = min 63 (ns.map V.int).length := HT.sIx_nat _ _ 63
      rw [e]
      omega
    have yint : ∀ y ∈ ys, ∃ z : Int, y = .int z := fun y hy => by
      rw [← hys] at hy
      obtain ⟨z, _, rfl⟩ := List.mem_map.mp (List.mem_of_mem_drop (List.mem_of_mem_take hy))
      exact ⟨z, rfl⟩
    have s1 : Same H (upd H p (.lst ys)) := fun b o e => by rw [upd_ne (ne_of_none e hp)]; exact e
    have hp1 : upd H p (.lst ys) p = some (.lst ys) := upd_same
    generalize upd H p (.lst ys) = H1 at s1 hp1
    refine ⟨p, rfl, ⟨_, SqL.of hp1⟩, fun D hD => ?_⟩
    have hpD : p ≠ D := ne_of_none hp1 hD
    refine lc_list (K := K) (a := p) (xs := ys) (fun i H' => Same H1 H' ∧ ∃ zs : List Int, H' D = some (.lst (zs.map V.int)) ∧ zs.length = i ∧ ∀ z ∈ zs, 0 ≤ z)
      ⟨fun b o e => by rw [upd_ne (ne_of_none e hD)]; exact e, [], upd_same, rfl, fun z h => by cases h⟩ (fun i H' _ ⟨e, _⟩ => SqL.of (e _ _ hp1)) ?_ ?_
    · rintro i x H' hi ⟨e, zs, hz, hl, h0⟩
      obtain ⟨z, rfl⟩ := yint x (List.mem_of_getElem? hi)
      have hlt : i < ys.length := (List.getElem?_eq_some_iff.mp hi).1
      refine ⟨rfl, tyes_go ?_⟩
      refine ⟨_, rfl, z, rfl, _, hz, Nat.lt_of_le_of_lt (by rw [List.length_map]; omega : (zs.map V.int).length ≤ 63) (by show 63 < sizeLine; decide), ?_⟩
      refine ⟨fun b o e' => ?_, zs ++ [if z < 0 then -z else z], by rw [upd_same, List.map_append]; rfl, by rw [List.length_append, hl]; rfl, fun y hy => ?_⟩
      · rw [upd_ne (ne_of_none e' hD)]
        exact e _ _ e'
      · rcases List.mem_append.mp hy with h | h
        · exact h0 y h
        · rw [List.mem_singleton] at h
          rw [h]
          split <;> omega
    · rintro H' ⟨e, zs, hz, hl, h0⟩
      refine ⟨by show 4 ≤ sizeLine; decide, fun b hb => ?_⟩
      have hbD : D ≠ b := ne_of_none hz hb
      refine k _ b (fun a' o e' => ?_) ?_ ⟨D, 0, 1234567891, 0, zs, upd_same, by rw [upd_ne hbD]; exact hz, by decide, by decide, by decide, by decide, h0, by omega⟩
      · have e2 := e _ _ (s1 _ _ e')
        rw [upd_ne (ne_of_none e2 hb)]
        exact e2
      · cases q : H b with
        | none => rfl
        | some o =>
          have e2 := e _ _ (s1 _ _ q)
          rw [hb] at e2
          cases e2
end
end Gy

namespace Gy
open PySem L2 PySem.Spec PyProof.Rows
abbrev RoomH := L2H.RoomH
/-- a def's promise where G holds of what runs around -/
structure FnG (G : Around → Prop) (P : Program) (w : World) (K : PySem.W.Frag) (mg : Str → Option Value) (base : Heap) (k : Nat) (f : Addr) (fd : FuncData) (ps : List Str) (sp : Sp) : Prop where
  len : ∀ vs H Q E, sp vs H Q E → vs.length = ps.length
  run : ∀ (A : Around) (outer : List Env) (s : Shared) (H : Hp) (args : Args) (us : List Value) (vs : List V) (Q : VK) (E : XK), RoomH k A → G A → Env0 P w K mg base A outer s H → BindsTo s fd args (ps.zip us) → Vals vs us → sp vs H Q E →
    codeAny (model P w) A (.call (.ref f) args) (CR CX0 outer P w H s Q E) s
def cxG (c : Bool) (P : Program) (w : World) (K : PySem.W.Frag) (mg : Str → Option Value) (base : Heap) (N : List Str) (qual : Str) (scope : Scope) (f : Addr) (cd : Value) (A : Around) (outer : List Env) (s : Shared) (H : Hp) (E : XK) : Cx :=
  { cxOf CX0 P w K mg base N qual scope f cd A outer s H E with calm := c }
theorem inv_startG {c : Bool} {P : Program} {w : World} {K : PySem.W.Frag} {mg : Str → Option Value} {base : Heap} {N ps : List Str} {qual : Str} {scope : Scope} {f : Addr} {cd : Value} {A : Around} {outer : List Env} {s s1 : Shared} {H : Hp} {E : XK} {us : List Value} {vs : List V}
    (S : FnScope N ps scope) (hc : c = true → A.handled = none) (e0 : Env0 P w K mg base A outer s H) (hl : vs.length = ps.length) (r : Vals vs us)
    (x : InCallC s s.heap.objs.size (bindL (envOfC qual scope s.heap.objs.size f cd).kindOf (ps.zip us) fun _ => none) (cellsFrom (s.heap.objs.size + 1) scope.names []) (bindC (envOfC qual scope s.heap.objs.size f cd).kindOf (ps.zip us) fun _ => none) s1) :
    Inv (cxG c P w K mg base N qual scope f cd A outer s H E) [] (L2.start N vs) H s1 := by
  have hpl : ps.length ≤ N.length := by have := congrArg List.length S.pre; rw [List.length_take] at this; omega
  obtain ⟨h1, tk, rfl, hk⟩ := x.done
  have noA : ∀ b : Addr, b ∉ (cxG c P w K mg base N qual scope f cd A outer s H E).ex := fun b z => absurd (show b ∈ ([] : List Addr) from z) (by simp)
  refine ⟨⟨e0.mod, S.kind, rfl, rfl, Nat.le_refl _, fun y z c h1 h2 => ?_, fun y hy => ?_, fun y c _ h => ?_, (fun z => hc z), Around.frames_deeper e0.frames, .inr ⟨rfl, rfl⟩, fun b z => absurd z (noA b), e0.bs, e0.bsz, fun b _ _ => noA b, fun b z => absurd z (noA b), e0.funs, e0.frf⟩,
    rfl, e0.bare, Un.kept hk, ⟨_, x.toInCall.ns, fun i y v h1 h2 h3 => ?_⟩, fun y c h => ⟨_, x.cell y c h⟩, e0.hok.fresh (Nat.le_refl _), fun y c h => ?_, fun p hp => absurd (show p ∈ ([] : List (Addr × Obj)) from hp) (by simp), e0.hok.kept hk, ?_⟩
  · exact name_of_addr x.apart (PySem.mem_of_lookup h1) (PySem.mem_of_lookup h2)
  · have hy : scope.names.lookup y = some .cell ∨ scope.names.lookup y = some .free := hy
    rcases hy with hy | hy
    · exact cell_has hy
    · exact absurd rfl (S.nofree _ (PySem.mem_of_lookup hy))
  · exact Nat.le_of_lt (x.above y c (PySem.mem_of_lookup h))
  · have hi : i < vs.length := by
      unfold L2.start at h2
      by_cases hi : i < vs.length
      · exact hi
      · rw [List.getElem?_append_right (by simpa using hi)] at h2
        rw [List.getElem?_replicate] at h2
        split at h2 <;> cases h2
    have ha : vs[i]? = some v := by
      unfold L2.start at h2
      rw [List.getElem?_append_left (by simpa using hi), List.getElem?_map] at h2
      cases e : vs[i]? with
      | none => rw [e] at h2; cases h2
      | some a => rw [e] at h2; cases h2; rfl
    obtain ⟨u, hu, rv⟩ := r.get ha
    have hp : ps[i]? = some y := by
      rw [← S.pre, List.getElem?_take_of_lt (by omega)]; exact h1
    have ndP : ps.Nodup := by rw [← S.pre]; exact S.nd.sublist (List.take_sublist _ _)
    refine ⟨u, rv, ?_⟩
    rcases S.par y (List.mem_of_getElem? hp) with k | k
    · exact .inl ⟨k, bindL_get ndP hp hu k⟩
    · obtain ⟨c, e⟩ := cell_has (n := s.heap.objs.size + 1) k
      refine .inr ⟨.inl k, c, e, ?_⟩
      have q := x.cell y c e
      rw [bindC_get ndP hp hu (by show scope.names.lookup y ≠ _; rw [k]; decide)] at q
      exact q
  · exact e0.hok.fresh (Nat.le_of_lt (x.above y c (PySem.mem_of_lookup h)))
  · unfold L2.start
    show _ = N.length
    rw [List.length_append, List.length_map, List.length_replicate]
    omega
/-- a def by its body, where G holds of what runs around -/
theorem fn_ofG {c : Bool} {G : Around → Prop} {P : Program} {w : World} {K : PySem.W.Frag} {mg : Str → Option Value} {base : Heap} {k : Nat} {f : Addr} {x qual : Str} {st : Stmt} {fd : FuncData} {N ps : List Str} {sp : Sp}
    (F : Fun K x qual st f fd) (S : FnScope N ps (defScope st)) (hc : ∀ A, G A → c = true → A.handled = none) (len : ∀ vs H Q E, sp vs H Q E → vs.length = ps.length)
    (hbody : ∀ (cdv : Value) (A : Around) (outer : List Env) (s : Shared) (H : Hp) (vs : List V) (Q : VK) (E : XK), G A → RoomH k (A.deeper (envOfC qual (defScope st) s.heap.objs.size f cdv)) → sp vs H Q E →
      ∃ t, PSs (cxG c P w K mg base N qual (defScope st) f cdv A outer s H E).nox (defBody st) t ∧ t { nx := fun _ H' => Q .non H', rt := Q } (L2.start N vs) H) :
    FnG G P w K mg base (k + 1) f fd ps sp := by
  obtain ⟨oc, od, kV, doc, pm, an, cdv, ct, osl, rfl, lk, hcd⟩ := F.ex
  refine ⟨len, fun A outer s H args us vs Q E hr hg e0 hb r hsp => ?_⟩
  have hl := len _ _ _ _ hsp
  have KX : K.In s.heap := e0.mod.kin.keeps fun b o e => (e0.bs b o e).1
  have lim : s.heap.NoLimit := e0.mod.nolimit.keeps fun b o e => (e0.bs b o e).1
  have hkind : ∀ y ∈ ps.zip us, (defScope st).names.lookup y.1 = some .local ∨ ((defScope st).names.lookup y.1 = some .cell ∧ ((cellsFrom (s.heap.objs.size + 1) (defScope st).names []).lookup y.1).isSome = true) := fun ⟨n, v⟩ hy => by
    rcases S.par n (List.of_mem_zip hy).1 with q | q
    · exact .inl q
    · exact .inr ⟨q, PySem.W.cellsFrom_some _ _ _ (.inl q)⟩
  refine codeAny_call_function hr.depth (KX _ _ lk) rfl S.co S.gen rfl (PySem.W.codeRec_of KX hcd) (hb _ _ _ _ ?_)
  refine wpAny_newFunctionEnv_cells S.kind hkind fun env he s1 x => ?_
  subst he
  refine ⟨lim.keeps x.toInCall.keep, codeAny_func ?_⟩
  obtain ⟨t, ht, hq⟩ := hbody cdv A outer s H vs Q E hg (hr.deeper _) hsp
  have I : Inv (cxG c P w K mg base N qual (defScope st) f cdv A outer s H E) [] (L2.start N vs) H s1 := inv_startG S (hc A hg) e0 hl r x
  refine wpAny_mono (ht.nox.run [] s1 (L2.start N vs) H _ I hq) (fun fl s' hs => ?_) fun e s' hs => hs
  have fin : ∀ {σ' : L2.St} {H' : Hp} {v : V} {u : Value}, Inv (cxG c P w K mg base N qual (defScope st) f cdv A outer s H E) [] σ' H' s' → RelV v u → Q v H' → CE outer P w H s Q u s' :=
    fun {σ' H' v u} J rv q => ⟨v, H', J.os, J.bare, J.base, J.hok, rv, q⟩
  cases fl with
  | ret u =>
    obtain ⟨v, σ', H', J, rv, q⟩ := hs
    exact fin J rv q
  | next =>
    obtain ⟨σ', H', J, q⟩ := hs
    exact fin (v := V.non) (u := Value.none) J rfl q
  | brk =>
    obtain ⟨_, _, _, q⟩ := hs
    exact False.elim q
  | cont =>
    obtain ⟨_, _, _, q⟩ := hs
    exact False.elim q
section
variable {G : Around → Prop} {X : Cx} {k : Nat} {f : Addr} {fd : FuncData} {ps : List Str} {sp : Sp} {E : XK} {x : Str} {q pos : Pos} {e : Expr} {es : List Expr} {t : TA}
theorem pe_callG (F : FnG G X.prog X.w X.K X.mg X.base k f fd ps sp) (hr : RoomH k X.A) (hG : G X.A) (hg : Gl X x) (hm : X.mg x = some (.ref f)) (hk : PySem.W.keepIn X.K (.ref f) = true) (hb : Binds X.K fd ps [])
    (ha : PA X (e :: es) t) (hdb : (x == ("__debug__" : Str)) = false := by decide) (he : starEach (e :: es) X.env = (false, eval e X.env) :: starEach es X.env := by rfl) (hpl : (backTo pos (starEach es X.env)).any (·.1) = false := by rfl) :
    PE X (.Call (.Name x q) (e :: es) [] pos) (fun σ H Q => t σ H fun vs H1 => sp vs H1 Q E0) := by
  refine ⟨fun pins s σ H Q I h => ?_⟩
  refine wpAny_Call_Name_kw (ld_glob I hg hm ?_ hdb)
  refine PySem.W.callWith_K (h₀ := X.base) I.ok.mod.kin hk (thn (ha.run pos pins s σ H _ I h) fun us s1 ⟨vs, H1, I1, r, q⟩ => ⟨I1.kIn, ?_⟩) he hpl
  have hl : us.length = ps.length := by rw [← r.length]; exact F.len _ _ _ _ q
  have b := hb s1 us I1.kIn (by rw [List.append_nil]; exact hl)
  rw [List.append_nil] at b
  refine wpAny_call (codeAny_mono (F.run X.A X.stack s1 H1 ⟨us, []⟩ us vs Q E0 hr hG I1.env0 b r q) fun r s' hq => ?_)
  cases r with
  | error e => exact False.elim hq
  | ok fl =>
    cases fl with
    | ret u => exact I1.after hq
    | next => exact False.elim hq
    | brk => exact False.elim hq
    | cont => exact False.elim hq
end
end Gy

namespace Gy
open PySem L2 PySem.Spec PyProof.Rows
/-- at e an exception of the class at C, its dict at d (or none as yet), its args the tuple at t -/
def exq (e C : Addr) (d : Option Addr) (t : Addr) : HO := .ext fun h => h.get? e = some ({ cls := .ref C, dict := d, data := .fields #[.ref t, .none, .none, .none, .bool false, .none] } : Obj)
theorem exq_own {e C x t : Addr} {d : Option Addr} : exq e C d t ≠ .own x := fun z => by
  have z' : HO.ext _ = HO.own x := z
  cases z'
theorem exq_tup {e C t : Addr} {d : Option Addr} {xs : List V} : exq e C d t ≠ .tup xs := fun z => by
  have z' : HO.ext _ = HO.tup xs := z
  cases z'
theorem exq_frz {e C t : Addr} {d : Option Addr} {o : Obj} {u : HO} : exq e C d t ≠ .frz o u := fun z => by
  have z' : HO.ext _ = HO.frz o u := z
  cases z'
theorem exq_tbl {e C t : Addr} {d : Option Addr} {ps : Array Value} : exq e C d t ≠ .tbl ps := fun z => by
  have z' : HO.ext _ = HO.tbl ps := z
  cases z'
theorem exq_lst {e C t : Addr} {d : Option Addr} {xs : List V} : exq e C d t ≠ .lst xs := fun z => by
  have z' : HO.ext _ = HO.lst xs := z
  cases z'
theorem exq_dK {e C t : Addr} {d : Option Addr} {xs : List (Key × V)} : exq e C d t ≠ .dK xs := fun z => by
  have z' : HO.ext _ = HO.dK xs := z
  cases z'
theorem exd_lst {e : Addr} {fs : List (Str × V)} {xs : List V} : exd e fs ≠ .lst xs := fun z => by
  have z' : HO.ext _ = HO.lst xs := z
  cases z'
theorem exd_frz {e : Addr} {fs : List (Str × V)} {o : Obj} {u : HO} : exd e fs ≠ .frz o u := fun z => by
  have z' : HO.ext _ = HO.frz o u := z
  cases z'
theorem exd_tbl {e : Addr} {fs : List (Str × V)} {ps : Array Value} : exd e fs ≠ .tbl ps := fun z => by
  have z' : HO.ext _ = HO.tbl ps := z
  cases z'
theorem exq_ok {P : Program} {w : World} {H : Hp} {h : Heap} {e C t : Addr} {d : Option Addr} (he : h.get? e = some ({ cls := .ref C, dict := d, data := .fields #[.ref t, .none, .none, .none, .bool false, .none] } : Obj)) : ObjOk P w H h e (exq e C d t) :=
  ⟨he, ⟨_, he⟩, fun h1 h2 z k => k _ z⟩
theorem exq_at {P : Program} {w : World} {H : Hp} {h : Heap} {e C t : Addr} {d : Option Addr} (hok : HOk P w H h) (he : H e = some (exq e C d t)) : h.get? e = some ({ cls := .ref C, dict := d, data := .fields #[.ref t, .none, .none, .none, .bool false, .none] } : Obj) := by
  have x : ObjOk P w H h e (.ext fun h => h.get? e = some ({ cls := .ref C, dict := d, data := .fields #[.ref t, .none, .none, .none, .bool false, .none] } : Obj)) := hok e _ he
  exact x.1
/-- what the written part says of an exception class of the program, for its instances -/
structure ExQ (K : PySem.W.Frag) (C : Addr) : Prop where
  oex : OexC K C
  ga : PySem.W.findIn K (.ref C) "__getattribute__" = some (some (.builtin "BaseException.__getattribute__"))
  gg : PySem.W.findIn K (.ref C) "__getattr__" = some none
  hd : PySem.W.hasDictIn K C = true
  cl : PySem.W.findIn K (.ref C) "__class__" = some (some (.builtin "object.__class__"))
  cn : PySem.W.specialIn K (.builtin "object.__class__") "__get__" = some (some (.builtin "getset_descriptor.__get__"))
  ct : PySem.W.takesIn K (.builtin "object.__class__") = some true
  cm : PySem.W.mroIn K C (.type "object") = some true
section
variable {X : Cx} {pins : List (Addr × Obj)} {σ : L2.St} {H : Hp} {s : Shared} {a C dx t0 : Addr} {f : Str} {y : V} {u : Value} {fs : List (Str × V)} {E : Value → Shared → Prop} {A : Around}
/-- self.f = y, the first one -/
theorem qst_new {Q : Unit → Shared → Prop} (T : OexC X.K C) (I : Inv X pins σ H s) (e : H a = some (exq a C none t0)) (hno : PySem.W.findIn X.K (.ref C) f = some none) (ry : RelV y u)
    (h : ∀ dx s', H dx = none → dx ≠ a → Inv X pins σ (upd (upd H dx (exd dx [(f, y)])) a (exq a C (some dx) t0)) s' → Q () s') : wpAny (model X.prog X.w) A (setAttr (.ref a) f u) Q E s := by
  obtain ⟨nm, q, N, bs, bm, sn, sub, ab, col, dd, k0, k1, k2, k3, k5, hC, hbm⟩ := T.cls
  have hcl : PySem.W.clsIn X.K C = some { name := nm, bases := bs, mro := .ref C :: bm, ns := N, qualname := q, hasDict := true, slotNames := sn, subclasses := sub, abstract := ab, collection := col, hasDel := false } := by unfold PySem.W.clsIn; rw [hC] <;> rfl
  have ho := exq_at I.hok e
  obtain ⟨hp, g, d, t, os⟩ := s
  refine PySem.W.set_plain I.kIn (ox := { cls := .ref C, dict := none, data := .fields #[.ref t0, .none, .none, .none, .bool false, .none] }) (od := none) ⟨ho, rfl, rfl, trivial⟩ T.sa ?_
  refine PySem.HandSPX.exc_osa I.kIn ho hcl (show PySem.HandSPX.refsVE (.ref C :: bm) = true from hbm) rfl hno (fun h' tk' dx k dn dne hx hn => ?_)
  have hnd : H dx = none := I.hok.fresh dn
  have nd : ∀ {b : Addr} {o : Obj}, hp.get? b = some o → b ≠ dx := fun {b o} q => Nat.ne_of_lt (Nat.lt_of_lt_of_le (Heap.lt_size q) dn)
  have na : ∀ {b : Addr}, H b = none → b ≠ a := fun {b} n z => by
    rw [z, e] at n
    cases n
  have Un1 : Un X.fs [] H (upd (upd H dx (exd dx [(f, y)])) a (exq a C (some dx) t0)) hp h' := {
    keep := fun b o q n _ _ => k b o (na n) q
    slot := fun b o q n _ _ => ⟨o.slots, k b o (na n) q⟩
    free := fun b o q n _ => by rw [upd_ne (na n), upd_ne (nd q)]; exact n
    there := fun b o q _ => by
      by_cases hb : b = a
      · exact ⟨_, by rw [hb]; exact hx⟩
      · exact ⟨o, k b o hb q⟩
    tups := fun b xs q => by rw [upd_ne (at_ne e q exq_tup), upd_ne (ne_of_none q hnd)]; exact q
    frzs := fun b o v q => by rw [upd_ne (at_ne e q exq_frz), upd_ne (ne_of_none q hnd)]; exact q
    tbls := fun b ps q => ⟨#[], by rw [upd_ne (at_ne e q exq_tbl), upd_ne (ne_of_none q hnd), q]; simp⟩ }
  refine h dx _ hnd dne (I.un (t' := tk') Un1 fun b o q => ?_)
  by_cases hb : b = a
  · subst hb
    rw [upd_same] at q
    cases q
    exact exq_ok hx
  · rw [upd_ne hb] at q
    by_cases hd : b = dx
    · subst hd
      rw [upd_same] at q
      cases q
      exact exd_ok hn (relO_put (fs := []) ry fun g => True.intro)
    · rw [upd_ne hd] at q
      exact (I.hok b o q).stay (fun c v hc z => k c v (by
          rcases hc with hc | hc
          · rw [hc]
            exact hb
          · exact at_ne e hc exq_own) z)
        (fun c hc => by rw [upd_ne (at_ne e hc exq_own), upd_ne (ne_of_none hc hnd)]; exact hc) (fun c xs hc => by rw [upd_ne (at_ne e hc exq_tup), upd_ne (ne_of_none hc hnd)]; exact hc)
/-- self.f = y, a further one -/
theorem qst_old {Q : Unit → Shared → Prop} (T : OexC X.K C) (I : Inv X pins σ H s) (e : H a = some (exq a C (some dx) t0)) (ed : H dx = some (exd dx fs)) (hl : fs.length ≤ 900) (hno : PySem.W.findIn X.K (.ref C) f = some none) (ry : RelV y u)
    (h : ∀ s', Inv X pins σ (upd H dx (exd dx ((f, y) :: fs))) s' → Q () s') : wpAny (model X.prog X.w) A (setAttr (.ref a) f u) Q E s := by
  obtain ⟨nm, q, N, bs, bm, sn, sub, ab, col, dd, k0, k1, k2, k3, k5, hC, hbm⟩ := T.cls
  have hcl : PySem.W.clsIn X.K C = some { name := nm, bases := bs, mro := .ref C :: bm, ns := N, qualname := q, hasDict := true, slotNames := sn, subclasses := sub, abstract := ab, collection := col, hasDel := false } := by unfold PySem.W.clsIn; rw [hC] <;> rfl
  have ho := exq_at I.hok e
  obtain ⟨mA, hns, rel⟩ := exd_at I.hok ed
  have hw := within_of rel
  obtain ⟨hp, g, d, t, os⟩ := s
  obtain ⟨oD, _, _, hoD, _, _⟩ := hns.count hw
  refine PySem.W.set_plain I.kIn (ox := { cls := .ref C, dict := some dx, data := .fields #[.ref t0, .none, .none, .none, .bool false, .none] }) (od := some oD) ⟨ho, rfl, rfl, hoD⟩ T.sa ?_
  refine PySem.OEX.osa_old I.kIn ho hns hw (by rw [List.length_map]; omega) hcl (show PySem.HandSPX.refsVE (.ref C :: bm) = true from hbm) rfl hno (fun h' tk' k hn => ?_)
  have hd : ∃ o, h'.get? dx = some o := by
    obtain ⟨o, _, _, e', _⟩ := hn
    exact ⟨o, e'⟩
  exact h _ (I.write (t' := tk') (x := dx) (e := dx) (o := exd dx ((f, y) :: fs)) (by rw [ed]; exact True.intro) (.inl rfl) k hd (exd_ok hn (relO_put ry rel)))
end
end Gy

namespace PySem
namespace GyPX
open PySem.W PySem.Calls PyProof.Rows PySem.HandSPX
section
open Builtin Builtin.ObjectAttr
variable {prog : Program} {w : World} {A : Around} {E : Value → Shared → Prop} {R : Result → Shared → Prop} {h : Heap} {g : Array GenState} {d : Drawn} {t : Nat} {os : OsState}
variable {nm q : Str} {C N : Addr} {bs bm bmB : List Value} {hdct : Bool} {sn : List Str} {sub : List Value} {ab : Bool} {col : Option Bool} {dd : Option Addr} {k0 k1 k2 k3 k5 : Option Value} {B newId initId : String}
/-- ValueError.__init__(e, ..): the args are laid anew, and told -/
theorem init_told (F : ExcBaseFacts B newId initId bmB) (hT : ∀ X : String, bm.contains (.type X) = bmB.contains (.type X)) {e t0 : Addr} {rest : List Value}
    (hC : h.get? C = some (excClassObj nm q C N bs bm hdct sn sub ab col dd k0 k1 k2 k3 k5 newId)) (he : h.get? e = some (excO C t0)) (hrest : rest.length ≤ sizeLine)
    (hq : ∀ h', (∀ b o, b ≠ e → (h.push (kdv_tup rest)).get? b = some o → h'.get? b = some o) → h'.get? e = some (excO C h.objs.size) → R (.ok (.ret .none)) ⟨h', g, d, t, os⟩) :
    codeAny (model prog w) A (.call (.builtin initId) ⟨.ref e :: rest, []⟩) R ⟨h, g, d, t, os⟩ := by
  refine codeAny_call_builtin F.init.plain F.initEntry (check_init_own F hT hC he rfl ?_)
  wp_walk
  refine hq _ (fun b o hb ho => ?_) ?_
  · rw [Heap.get?_update_other _ _ (Ne.symm hb)]
    exact ho
  · rw [Heap.get?_update_self _ (Heap.get?_push_of_some _ he) rfl]
    rfl
end
end GyPX
end PySem
namespace Gy
open PySem L2 PySem.Spec PyProof.Rows
section
variable {X : Cx} {pins : List (Addr × Obj)} {σ : L2.St} {H : Hp} {s : Shared} {a C dx t0 : Addr} {f : Str} {y : V} {u : Value} {fs : List (Str × V)} {E : Value → Shared → Prop} {A : Around}
theorem qinit_ok {us : List Value} {vs : List V} {Q : Value → Shared → Prop} (T : OexC X.K C) (I : Inv X pins σ H s) (e : H a = some (exq a C none t0)) (r : Vals vs us) (hl : us.length ≤ sizeLine)
    (h : ∀ t1 s', H t1 = none → t1 ≠ a → Inv X pins σ (upd (upd H t1 (.tup vs)) a (exq a C none t1)) s' → Q .none s') :
    wpAny (model X.prog X.w) A (call (.builtin "ValueError.__init__") (.ref a :: us)) Q E s := by
  obtain ⟨nm, q, N, bs, bm, sn, sub, ab, col, dd, k0, k1, k2, k3, k5, hC, hbm⟩ := T.cls
  have ho := exq_at I.hok e
  obtain ⟨hp, g, d, t, os⟩ := s
  refine wpAny_call (PySem.GyPX.init_told F.excBase_ValueError (fun Y => PySem.HandSPX.refsVE_contains Y bm hbm) (I.kIn _ _ hC) ho hl fun h' k hx => ?_)
  have hn : H hp.objs.size = none := I.hok.fresh (Nat.le_refl _)
  have hne : hp.objs.size ≠ a := fun z => by rw [z, e] at hn; cases hn
  have I1 : Inv X pins σ (upd H hp.objs.size (.tup vs)) ⟨hp.push (PySem.W.kdv_tup us), g, d, t, os⟩ := I.laid (t' := t) (fun b o e => Heap.get?_push_of_some _ e) (Nat.le_refl _) ⟨by rw [r.length]; exact hl, us, r, ⟨_, Heap.get?_push_size _ rfl, rfl, _, rfl⟩⟩
  have e1 : upd H hp.objs.size (.tup vs) a = some (exq a C none t0) := by rw [upd_ne (Ne.symm hne)]; exact e
  have J := I1.write (t' := t) (x := a) (e := a) (o := exq a C none hp.objs.size) (by rw [e1]; exact True.intro) (.inl rfl) k ⟨_, hx⟩ (exq_ok hx)
  exact h _ _ hn hne J
end
section
variable {X : Cx} {o e : Expr} {es : List Expr} {to te : TE} {ta : TA} {f n : Str} {p p' p1 p2 pos : Pos}
/-- B.__init__(self, ..), B a class of the program over ValueError that has no __init__ of its own -/
def tQinit (ta : TA) (K : PySem.W.Frag) : TE := fun σ H Q => ta σ H fun vs H1 => ∃ (a C t0 : Addr) (ws : List V), vs = .ref a :: ws ∧ ws.length ≤ 1000 ∧ OexC K C ∧ H1 a = some (exq a C none t0) ∧
  ∀ t1, H1 t1 = none → t1 ≠ a → Q .non (upd (upd H1 t1 (.tup ws)) a (exq a C none t1))
theorem pe_qinit {B : Addr} {x : Str} {pl : Sem Bool} (hg : Gl X x) (hm : X.mg x = some (.ref B)) (hr : PySem.W.readsIn X.K B (.type "type") = true) (hs : PySem.W.specialIn X.K (.ref B) "__getattribute__" = some (some (.builtin "type.__getattribute__")))
    (vV : PySem.W.findCls X.K (.ref B) (.type "type") "__init__" = some (.val (.builtin "ValueError.__init__"))) (ha : PA X (e :: es) ta) (hdb : (x == ("__debug__" : Str)) = false := by decide)
    (hc : eval (.Call (.Attribute (.Name x p1) "__init__" p2) (e :: es) [] pos) X.env = (do
      let ov ← eval (.Name x p1) X.env
      standAt p2.atName
      let (f, first) ← holding [ov] (getMethod ov "__init__" pl)
      callWith pos f first (backTo pos (starEach (e :: es) X.env)) (backToKw pos (keywordEach [] X.env))) := by rfl)
    (he : starEach (e :: es) X.env = (false, eval e X.env) :: starEach es X.env := by rfl) (hpl : (backTo pos (starEach es X.env)).any (·.1) = false := by rfl) :
    PE X (.Call (.Attribute (.Name x p1) "__init__" p2) (e :: es) [] pos) (tQinit ta X.K) := by
  refine ⟨fun pins s σ H Q I h => ?_⟩
  refine PySem.W.methodCall_KW (ld_glob I hg hm ?_ hdb) hc
  refine PySem.W.method_cls I.kIn hs ?_
  refine PySem.W.cls_value I.kIn hr vV (by decide +kernel) ?_
  show wpAny _ _ (callWith pos (Value.builtin "ValueError.__init__") [] (backTo pos (starEach (e :: es) X.env)) []) _ _ _
  refine PyProof.Rows.callWith_method1 (thn (ha.run pos pins _ σ H _ (I.tok _) h) fun us s1 ⟨vs, H1, I1, r1, a, C, t0, ws, ev, hl, T, ea, q⟩ => ?_) he hpl
  subst ev
  cases r1 with
  | @cons _ u0 _ ur ra rw' =>
    obtain rfl : u0 = Value.ref a := ra
    have hlen : ur.length ≤ sizeLine := by
      rw [← Paired.length rw', sizeLine_eq]
      omega
    exact qinit_ok T I1 ea rw' hlen fun t1 s' n ne J => ⟨.non, _, J, rfl, q t1 n ne⟩
/-- self.f = e -/
def tQst (K : PySem.W.Frag) (f : Str) (to te : TE) : TS := fun D σ H => te σ H fun y H1 => to σ H1 fun x H2 => ∃ a C t0 : Addr, x = .ref a ∧ OexC K C ∧ PySem.W.findIn K (.ref C) f = some none ∧
  ((H2 a = some (exq a C none t0) ∧ ∀ dx, H2 dx = none → dx ≠ a → D.nx σ (upd (upd H2 dx (exd dx [(f, y)])) a (exq a C (some dx) t0))) ∨
    ∃ (dx : Addr) (fs : List (Str × V)), H2 a = some (exq a C (some dx) t0) ∧ H2 dx = some (exd dx fs) ∧ fs.length ≤ 900 ∧ D.nx σ (upd H2 dx (exd dx ((f, y) :: fs))))
theorem ps_qst (ho : PE X o to) (he : PE X e te) (hs : swapsWith e (some (.Attribute o f p')) pos.line X.env = pure false := by rfl) : PS X (.Assign [.Attribute o f p'] e pos) (tQst X.K f to te) := by
  refine ⟨fun pins s σ H D I h => ?_⟩
  refine plainObj_wpAny_Assign_Attribute (thn (he.run pins s σ H _ I h) fun v s1 ⟨y, H1, I1, r1, q1⟩ => thn (ho.run pins s1 σ H1 _ I1 q1) fun u s2 ⟨x, H2, I2, r2, a, C, t0, ex, T, hno, q⟩ => ?_) hs
  subst ex
  obtain rfl : u = Value.ref a := r2
  rcases q with ⟨ea, q⟩ | ⟨dx, fs, ea, ed, hl, q⟩
  · exact qst_new T I2 ea hno r1 fun dx s' n ne J => ⟨σ, _, J, q dx n ne⟩
  · exact qst_old T I2 ea ed hl hno r1 fun s' J => ⟨σ, _, J, q⟩
/-- e.f of an exception that has its dict -/
def tQfld (K : PySem.W.Frag) (f : Str) (te : TE) : TE := fun σ H Q => te σ H fun x H1 => ∃ (a C d t0 : Addr) (fs : List (Str × V)) (v : V), x = .ref a ∧ ExQ K C ∧ PySem.W.findIn K (.ref C) f = some none ∧ H1 a = some (exq a C (some d) t0) ∧ H1 d = some (exd d fs) ∧ fs.lookup f = some v ∧ Q v H1
theorem pe_qfld (he : PE X e te) (hb : attributeBase e n X.env (eval e X.env) = eval e X.env := by rfl) : PE X (.Attribute e n pos) (tQfld X.K n te) := by
  refine ⟨fun pins s σ H Q I h => ?_⟩
  refine attr_of hb (thn (he.run pins s σ H _ I h) fun u s1 hh => ?_)
  obtain ⟨x, H1, I1, rx, a, C, d, t0, fs, v, ex, T, hno, ea, ed, l, q⟩ := hh
  subst ex
  obtain rfl : u = Value.ref a := rx
  have ha := exq_at I1.hok ea
  obtain ⟨mA, hns, hr⟩ := exd_at I1.hok ed
  obtain ⟨od, ho, hl⟩ := lookIn_ns hns
  obtain ⟨u, hu, ru⟩ := RelO.some_of (v := v) (o := mA n) (by rw [← l]; exact hr n)
  have J : PySem.W.InstAt s1.heap a { cls := .ref C, dict := some d, data := .fields #[.ref t0, .none, .none, .none, .bool false, .none] } C (some od) := ⟨ha, rfl, rfl, ho⟩
  exact HandSPX.exc_get I1.kIn J T.ga T.gg T.oex.exC (PySem.W.findObj_own T.hd hno rfl (by rw [hl, hu])) (handed_of ru) ⟨v, H1, I1.tok _, ru, q⟩
/-- isinstance(e, c), e an exception that stands in H -/
def rIsQ (K : PySem.W.Frag) : List V → Hp → VK → Prop := fun xs H Q => ∃ (a C t0 : Addr) (d : Option Addr) (c : V) (cv : Value) (b : Bool), xs = [.ref a, c] ∧ ExQ K C ∧ H a = some (exq a C d t0) ∧ (∀ dd, d = some dd → ∃ fs, H dd = some (exd dd fs)) ∧
  (∀ u, RelV c u → u = cv) ∧ PySem.W.kitOne K (.ref C) cv = some b ∧ Q (.bl b) H
theorem call_isQ : CallR X (.builtin "isinstance") (rIsQ X.K) := by
  intro pins s σ H xs us Q I r h
  obtain ⟨a, C, t0, d, c, cv, b, rfl, T, ea, ed, hcv, e, q⟩ := h
  cases r with
  | cons rx rr =>
    cases rr with
    | cons rt rr =>
      cases rr
      cases rx
      have ec := hcv _ rt
      subst ec
      have ha := exq_at I.hok ea
      have hcl : (PySem.W.clsIn X.K C).isSome = true := by
        obtain ⟨nm, q, N, bs, bm, sn, sub, ab, col, dd, k0, k1, k2, k3, k5, hC, hbm⟩ := T.oex.cls
        unfold PySem.W.clsIn
        rw [hC] <;> rfl
      cases d with
      | none =>
        have J : PySem.W.InstAt s.heap a { cls := .ref C, dict := none, data := .fields #[.ref t0, .none, .none, .none, .bool false, .none] } C none := ⟨ha, rfl, rfl, trivial⟩
        exact PySem.W.kia_one (PySem.W.kitx_exc hcl T.ga T.gg T.oex.exC T.cl T.cn T.ct T.cm) I.kIn J e (fun z => nomatch z) fun tk => ⟨.bl b, H, I.kept (t' := tk) fun _ _ z => z, rfl, q⟩
      | some dd =>
        obtain ⟨fs, ed⟩ := ed dd rfl
        obtain ⟨mA, hns, hr⟩ := exd_at I.hok ed
        obtain ⟨od, ho, hl⟩ := lookIn_ns hns
        have J : PySem.W.InstAt s.heap a { cls := .ref C, dict := some dd, data := .fields #[.ref t0, .none, .none, .none, .bool false, .none] } C (some od) := ⟨ha, rfl, rfl, ho⟩
        exact PySem.W.kia_one (PySem.W.kitx_exc hcl T.ga T.gg T.oex.exC T.cl T.cn T.ct T.cm) I.kIn J e (fun z => nomatch z) fun tk => ⟨.bl b, H, I.kept (t' := tk) fun _ _ z => z, rfl, q⟩
/-- C(e, ..), C's own __init__ keeping sp -/
def tMkQ (C : Addr) (sp : Sp) (ta : TA) : TE := fun σ H Q => ta σ H fun vs H1 => vs.length ≤ 1000 ∧ ∀ a t0, H1 a = none → sp (.ref a :: vs) (upd H1 a (exq a C none t0)) (fun v H2 => v = .non ∧ Q (.ref a) H2) E0
theorem pe_mkq {x : Str} {C fI : Addr} {k : Nat} {fd : FuncData} {ps : List Str} {sp : Sp} (T : OexC X.K C) (iC : PySem.W.findIn X.K (.ref C) "__init__" = some (some (.ref fI))) (tI : PySem.W.typeIn X.K (.ref fI) = some (.type "function"))
    (F1 : FnOk X.prog X.w X.K X.mg X.base CX0 k fI fd ps sp) (hr : Room (k + 1) X.A) (hb : Binds X.K fd ps []) (hg : Gl X x) (hm : X.mg x = some (.ref C)) (ha : PA X (e :: es) ta)
    (hdb : (x == ("__debug__" : Str)) = false := by decide) (he : starEach (e :: es) X.env = (false, eval e X.env) :: starEach es X.env := by rfl) (hpl : (backTo pos (starEach es X.env)).any (·.1) = false := by rfl) :
    PE X (.Call (.Name x p) (e :: es) [] pos) (tMkQ C sp ta) := by
  refine ⟨fun pins s σ H Q I h => ?_⟩
  obtain ⟨nm, q, N, bs, bm, sn, sub, ab, col, dd, k0, k1, k2, k3, k5, hC, hbm⟩ := T.cls
  refine wpAny_Call_Name_kw (ld_glob I hg hm ?_ hdb)
  refine PySem.W.callWith_K (h₀ := X.base) I.ok.mod.kin T.kC (thn (ha.run pos pins s σ H _ I h) fun us s1 ⟨vs, H1, I1, r1, hz, q1⟩ => ⟨I1.kIn, ?_⟩) he hpl
  show wpAny _ _ (call (.ref C) us) _ _ _
  obtain ⟨hp, g, dr, tk, os⟩ := s1
  have hsz : hp.objs.size ≤ hp.objs.size + 1 := Nat.le_succ _
  have hn : H1 (hp.objs.size + 1) = none := I1.hok.fresh hsz
  have hq := q1 (hp.objs.size + 1) hp.objs.size hn
  have kk : ∀ b o, hp.get? b = some o → ((hp.push (PySem.W.kdv_tup us)).push (PySem.HandSPX.excO C hp.objs.size)).get? b = some o := fun b o e => Heap.get?_push_of_some _ (Heap.get?_push_of_some _ e)
  have hget : ((hp.push (PySem.W.kdv_tup us)).push (PySem.HandSPX.excO C hp.objs.size)).get? (hp.objs.size + 1) = some (PySem.HandSPX.excO C hp.objs.size) := by heap_get
  have I2 : Inv X pins σ (upd H1 (hp.objs.size + 1) (exq (hp.objs.size + 1) C none hp.objs.size)) ⟨(hp.push (PySem.W.kdv_tup us)).push (PySem.HandSPX.excO C hp.objs.size), g, dr, tk, os⟩ :=
    I1.laid (t' := tk) (a := hp.objs.size + 1) (o := exq (hp.objs.size + 1) C none hp.objs.size) (h' := (hp.push (PySem.W.kdv_tup us)).push (PySem.HandSPX.excO C hp.objs.size)) kk hsz (exq_ok hget)
  have r2 : Vals (V.ref (hp.objs.size + 1) :: vs) (Value.ref (hp.objs.size + 1) :: us) := .cons rfl r1
  have hl : (Value.ref (hp.objs.size + 1) :: us).length = ps.length := by
    have e := r2.length
    rw [F1.len _ _ _ _ hq] at e
    exact e.symm
  have hus : us.length ≤ sizeLine := by
    rw [← Paired.length r1, sizeLine_eq]
    omega
  have hb2 := hb ⟨(hp.push (PySem.W.kdv_tup us)).push (PySem.HandSPX.excO C hp.objs.size), g, dr, tk, os⟩ (Value.ref (hp.objs.size + 1) :: us) I2.kIn (by rw [List.append_nil]; exact hl)
  rw [List.append_nil] at hb2
  refine wpAny_call (PySem.HandSPX.call_own F.excBase_ValueError (fun Y => PySem.HandSPX.refsVE_contains Y bm hbm) (I1.kIn _ _ hC) (PySem.W.looks_findIn I1.kIn iC) (fun self => PySem.W.bind_fn I1.kIn self tI) hus
    (codeAny_mono (F1.run _ X.stack _ _ ⟨Value.ref (hp.objs.size + 1) :: us, []⟩ (Value.ref (hp.objs.size + 1) :: us) _ _ E0 (hr.make C us []) (I2.env0.make C us []) hb2 r2 hq) fun r s' hq' => ?_))
  cases r with
  | error er => exact False.elim hq'
  | ok fl =>
    cases fl with
    | ret u =>
      obtain ⟨v, H', I3, rv, ev, q3⟩ := I2.after hq'
      subst ev
      exact ⟨rv, ⟨V.ref (hp.objs.size + 1), H', I3, rfl, q3⟩⟩
    | next => exact False.elim hq'
    | brk => exact False.elim hq'
    | cont => exact False.elim hq'
/-- C(), C without an __init__ of its own -/
def tMkQ0 (C : Addr) : TE := fun _ H Q => ∀ a t0, H a = none → Q (.ref a) (upd H a (exq a C none t0))
theorem pe_mkq0 {x : Str} {C : Addr} {bmB : List Value} {B newId initId : String} (F : ExcBaseFacts B newId initId bmB) (q : PySem.W.excIn X.K C bmB newId = true) (kC : PySem.W.keepIn X.K (.ref C) = true) (hg : Gl X x) (hm : X.mg x = some (.ref C))
    (hdb : (x == ("__debug__" : Str)) = false := by decide) : PE X (.Call (.Name x p) [] [] pos) (tMkQ0 C) := by
  refine ⟨fun pins s σ H Q I h => ?_⟩
  refine wpAny_Call_Name_kw (ld_glob I hg hm ?_ hdb)
  refine PySem.W.callWith_K0 I.kIn kC ?_
  show wpAny _ _ (call (.ref C) []) _ _ _
  obtain ⟨bm, N, nm, qn, bs, hdct, sn, sub, ab, col, dd, k0, k1, k2, k3, k5, mN, hC, hN, hni, T⟩ := exc_obj I.kIn q
  refine wpAny_call_exc_subT F T hC hN hni (fun h' a hm => ?_) (by show 0 ≤ sizeLine; exact Nat.zero_le _)
  have hn : H a = none := I.hok.gone hm.new
  obtain ⟨t, ht, _, _⟩ := hm.there
  exact ⟨.ref a, upd H a (exq a C none t), I.laidN hm.keeps hm.new hn (exq_ok ht), rfl, h a t hn⟩
end
end Gy

namespace PySem
namespace GyRX
open PySem.W PySem.Calls PyProof.Rows Builtin Builtin.Str Builtin.BaseException Builtin.Exceptions
/-- what an exception class of the program must say, so that its instances show themselves as BaseException does -/
structure ShowC (K : Frag) (C : Addr) (hd : Str) : Prop where
  nm : ∃ cd, clsIn K C = some cd ∧ Str.ofString ((cd.name.toString.cutAt '.').getLastD "") = hd
  rp : findIn K (.ref C) "__repr__" = some (some (.builtin "BaseException.__repr__"))
  ex : subIn K (.ref C) (.type "BaseException") = some true
section
variable {prog : Program} {w : World} {A : Around} {E : Value → Shared → Prop} {s : Shared} {K : Frag} {x C t0 : Addr} {ox : Obj} {od : Option Obj} {hd : Str}
theorem whole_name {M : Model} {Q : String → Shared → Prop} (T : ShowC K C hd) (X : K.In s.heap) (I : InstAt s.heap x ox C od) (hq : ∀ n, Str.ofString ((n.cutAt '.').getLastD "") = hd → Q n s) : wpAny M A (typeNameOfWhole (.ref x)) Q E s := by
  obtain ⟨cd, hcd, he⟩ := T.nm
  unfold typeNameOfWhole shownTypeOf
  refine wpAny_bind (wpAny_bind (I.type.here ?_))
  have e : (Value.ref C == Value.type "builtin_function_or_method") = false := rfl
  simp only [e, Bool.false_eq_true, if_false]
  refine wpAny_pure ?_
  show wpAny M A (do return (← classData C).name.toString) Q E s
  exact wpAny_bind ((looks_clsIn X hcd).here (wpAny_pure (hq _ he)))
theorem repr_at (b : Nat) (T : ShowC K C hd) (X : K.In s.heap) (I : InstAt s.heap x ox C od) {vs : Array Value} (hdat : ox.data = .fields vs) (h0 : vs[0]? = some (.ref t0)) {i : Int} {tk : Tok} (ht : s.heap.TupAt t0 [.int i tk]) (hi : i.natAbs.log2 < 1920) {Q : Fin → Shared → Prop}
    (hq : ∀ u tk', Q (.done (.ret (.str (hd ++ "(" ++ toString i ++ ")") u))) { s with toks := tk' }) (hsz : b + (hd ++ "(" ++ (toString i : Str) ++ ")").length ≤ sizeLine) :
    wpAny (model prog w) A (Builtin.bexcReprAt b ⟨[.ref x], []⟩) Q E s := by
  have e1 : b + (hd.length + 1 + (toString i : Str).length + 1) ≤ sizeLine := by
    have e1 := hsz
    rw [strLen_append, strLen_append, strLen_append] at e1
    have eP : (Str.ofString "(").length = 1 := by rw [ofString_length]; rfl
    have eP2 : (Str.ofString ")").length = 1 := by rw [ofString_length]; rfl
    rw [eP, eP2] at e1
    exact e1
  unfold Builtin.bexcReprAt
  refine wpAny_bind (wpAny_of_eq (a := ((Value.ref x : Value), ([] : List Value))) (by first | rfl | (simp only [slotArgs]; rfl)) ?_)
  refine wpAny_bind (whole_name T X I fun n hn => ?_)
  obtain ⟨ot, k, hto, _, htd⟩ := id ht
  refine wpAny_bind (m := bexcArgs (.ref x)) ?_
  unfold bexcArgs
  refine wpAny_bind (wpAny_field I.1 hdat h0 (wpAny_bind (wpAny_seqItems hto htd (wpAny_pure ?_))))
  simp only [hn]
  refine wpAny_bind (wpAny_rule (wpAny_bind (ReprIs.int tk hi _ (by omega) _ _ _ _ fun tk2 => ?_)))
  have hz : (hd ++ "(" ++ (toString i : Str) ++ ")").length ≤ sizeLine := Nat.le_trans (Nat.le_add_left _ _) hsz
  exact wpAny_bind (wpAny_mkStr (wpAny_pure (hq _ _)) hz)
theorem ifBound {last : Value → List Value → Sem Value} {Q : Option Value → Shared → Prop} (T : ShowC K C hd) (X : K.In s.heap) (I : InstAt s.heap x ox C od)
    (hc : wpAny (model prog w) A (last (.builtin "BaseException.__repr__") [.ref x]) (fun v => Q (some v)) E s) : wpAny (model prog w) A (callSpecialIfBoundBy? last (.ref x) "__repr__") Q E s := by
  simp only [callSpecialIfBoundBy?, bindSpecialIfBound?]
  refine wpAny_holding (wpAny_bind (wpAny_bind (wpAny_bind (I.type.here ((looks_findIn X T.rp).here ?_)))))
  simp only [F.excStr_ValueError.repr.bind]
  refine wpAny_bind (wpAny_askSetting (wpAny_ite ?_))
  have fin : wpAny (model prog w) A (last (.builtin "BaseException.__repr__") [.ref x] >>= fun v => pure (some v)) Q E s :=
    wpAny_bind (wpAny_mono hc (fun v s' h' => wpAny_pure h') fun _ _ h' => h')
  split
  · exact wpAny_bind (wpAny_pure (wpAny_pure fin))
  · exact wpAny_tryCatch (wpAny_bind (wpAny_pure (wpAny_pure fin)))
theorem special {Q : Option Value → Shared → Prop} (T : ShowC K C hd) (X : K.In s.heap) (I : InstAt s.heap x ox C od) (h : Q (some (.builtin "BaseException.__repr__")) s) : wpAny (model prog w) A (specialOf (.ref x) "__repr__") Q E s := by
  unfold specialOf
  exact wpAny_bind (I.type.here ((looks_findIn X T.rp).here h))
theorem check (T : ShowC K C hd) (X : K.In s.heap) (I : InstAt s.heap x ox C od) {Q : Unit → Shared → Prop} (q : Q () s) : wpAny (model prog w) A (checkBuiltinCall "BaseException.__repr__" ⟨[.ref x], []⟩) Q E s :=
  @PySem.W.check_slot (model prog w) _ _ s "BaseException.__repr__" "BaseException" "__repr__" (.ref x) [] [] _ (by decide +kernel) (by decide +kernel) (I.type.andThen (looks_subIn X T.ex)) (F.args_bexc_repr (.ref x)) q
/-- repr(e) -/
theorem call_repr (T : ShowC K C hd) (X : K.In s.heap) (I : InstAt s.heap x ox C od) {vs : Array Value} (hdat : ox.data = .fields vs) (h0 : vs[0]? = some (.ref t0)) {i : Int} {tk : Tok} (ht : s.heap.TupAt t0 [.int i tk]) (hi : i.natAbs.log2 < 1920) (hu : A.units + 1 < cLine) {Q : Value → Shared → Prop}
    (hq : ∀ u tk', Q (.str (hd ++ "(" ++ toString i ++ ")") u) { s with toks := tk' }) (hsz : (hd ++ "(" ++ (toString i : Str) ++ ")").length ≤ sizeLine) :
    wpAny (model prog w) A (call (.builtin "repr") [.ref x]) Q E s := by
  refine Calls.call_function_entry F.kind_repr F.plain_repr F.entry_repr (F.args_repr1 _) ?_
  unfold Builtin.«repr»
  refine wpAny_bind (m := oneArg "repr" _) (wpAny_pure ?_)
  refine wpAny_bind (wpAny_cRoomFor (show A.in1.units < cLine from hu) ?_)
  refine wpAny_bind (special T X I ?_)
  refine wpAny_bind (m := callSpecialIfBound? (.ref x) (Str.ofString "__repr__")) ?_
  refine ifBound (last := fun g first => call g (first ++ [])) T X I ?_
  refine wpAny_call (codeAny_call_builtin F.excStr_ValueError.repr.plain F.entry_bexc_repr (check T X I ?_))
  show wpAny _ _ (Builtin.bexcReprAt 0 ⟨[.ref x], []⟩) _ _ _
  refine repr_at 0 T X I hdat h0 ht hi (fun u tk' => ?_) (by rw [Nat.zero_add]; exact hsz)
  refine wpAny_bind (wpAny_isInstance (T := "str") (b := true) rfl isSubtype_str_str ?_)
  exact wpAny_pure ⟨_, rfl, hq u tk'⟩
/-- .. within a list -/
theorem reprK (T : ShowC K C hd) {h₀ : Heap} (X : K.In h₀) (I : InstAt h₀ x ox C od) {vs : Array Value} (hdat : ox.data = .fields vs) (h0 : vs[0]? = some (.ref t0)) {i : Int} {tk : Tok} (ht : h₀.TupAt t0 [.int i tk]) (hi : i.natAbs.log2 < 1920) :
    ReprK prog w [] h₀ 1 (.ref x) (hd ++ "(" ++ toString i ++ ")") := by
  intro base hb A g E s Q hg hcl hu hk0 hQ
  have X' := X.keeps hk0
  have I' : InstAt s.heap x ox C od := ⟨hk0 _ _ I.at_, I.cls, I.no, by
    have z := I.dict
    revert z
    cases ox.dict with
    | none => cases od <;> exact id
    | some dd =>
      cases od with
      | none => exact id
      | some oo => exact fun z => hk0 _ _ z⟩
  have ht' : s.heap.TupAt t0 [.int i tk] := by
    obtain ⟨ot, k, a, b, c⟩ := ht
    exact ⟨ot, k, hk0 _ _ a, b, c⟩
  refine wpAny_pyReprUnder_ref (by omega) ?_
  unfold pyReprObjUnder pyReprObjBy
  refine wpAny_bind (wpAny_cRoomFor (by omega) ?_)
  refine wpAny_bind (special T X' I' ?_)
  refine wpAny_bind (ifBound T X' I' ?_)
  show wpAny _ _ (call (.builtin "BaseException.__repr__.under") [.ref x, rawInt base]) _ _ _
  refine wpAny_call (codeAny_call_builtin F.plain_bexc_repr_under F.entry_bexc_repr_under ?_)
  rw [F.check_bexc_repr_under]
  refine wpAny_pure ?_
  show wpAny _ _ (reprTwin "BaseException.__repr__" Builtin.bexcReprAt ⟨[.ref x, rawInt base], []⟩) _ _ _
  rw [reprTwin_eq]
  refine wpAny_bind (check T X' I' ?_)
  refine repr_at base T X' I' hdat h0 ht' hi (fun u tk' => ?_) hb
  refine wpAny_bind (wpAny_isInstance (T := "str") (b := true) rfl isSubtype_str_str (wpAny_pure ?_))
  exact ⟨_, _, rfl, hQ s.heap tk' fun _ _ e => e⟩
end
end GyRX
end PySem

namespace Gy
open PySem L2 PySem.Spec PyProof.Rows
open PySem.GyRX (ShowC)
/-- data, as it is shown: what flat things, lists, tuples, dicts with text keys and exceptions of one int are -/
inductive D where
  | non | bl (b : Bool) | int (i : Int) | str (x : Str) | lst (ds : List D) | tup (ds : List D) | dic (ks : List Str) (ds : List D) | exc (hd : Str) (i : Int)
mutual
def D.shown : D → Str
  | .non => "None"
  | .bl b => if b then ("True" : Str) else ("False" : Str)
  | .int i => (toString i : Str)
  | .str x => reprText x
  | .lst ds => listText (D.shownAll ds)
  | .tup ds => tupleText (D.shownAll ds)
  | .dic ks ds => dictText (List.zipWith (fun k v : Str => k ++ ": " ++ v) (ks.map reprText) (D.shownAll ds))
  | .exc hd i => hd ++ "(" ++ (toString i : Str) ++ ")"
def D.shownAll : List D → List Str
  | [] => []
  | d :: ds => D.shown d :: D.shownAll ds
end
mutual
def D.depth : D → Nat
  | .non => 0 | .bl _ => 0 | .int _ => 0 | .str _ => 0
  | .lst ds => D.depthAll ds + 1
  | .tup ds => D.depthAll ds + 1
  | .dic _ ds => D.depthAll ds + 1
  | .exc _ _ => 1
def D.depthAll : List D → Nat
  | [] => 0
  | d :: ds => max (D.depth d) (D.depthAll ds)
end
mutual
def D.ok : D → Bool
  | .non => true | .bl _ => true | .str _ => true
  | .int i => decide (i.natAbs.log2 < 1920)
  | .lst ds => D.okAll ds
  | .tup ds => D.okAll ds
  | .dic ks ds => (ks.length == ds.length) && D.okAll ds
  | .exc _ i => decide (i.natAbs.log2 < 1920)
def D.okAll : List D → Bool
  | [] => true
  | d :: ds => D.ok d && D.okAll ds
end
mutual
inductive Rp (K : PySem.W.Frag) (H : Hp) : V → D → Prop
  | non : Rp K H .non .non
  | bl (b : Bool) : Rp K H (.bl b) (.bl b)
  | int (i : Int) : Rp K H (.int i) (.int i)
  | str (x : Str) : Rp K H (.str x) (.str x)
  | lst {a : Addr} {xs : List V} {ds : List D} : H a = some (.lst xs) → RpAll K H xs ds → Rp K H (.ref a) (.lst ds)
  | tup {a : Addr} {xs : List V} {ds : List D} : H a = some (.tup xs) → RpAll K H xs ds → Rp K H (.ref a) (.tup ds)
  | dic {a : Addr} {ks : List Str} {xs : List V} {ds : List D} : H a = some (.dK (List.zipWith (fun k v => (Sum.inr k, v)) ks xs)) → ks.length = xs.length → RpAll K H xs ds → Rp K H (.ref a) (.dic ks ds)
  | exc {a C t0 : Addr} {d : Option Addr} {hd : Str} {i : Int} : H a = some (exq a C d t0) → (∀ dd, d = some dd → ∃ fs, H dd = some (exd dd fs)) → H t0 = some (.tup [.int i]) → ShowC K C hd → PySem.W.mroIn K C (.type "object") = some true →
      PySem.W.findIn K (.ref C) "__eq__" = some (some (.builtin "object.__eq__")) → Rp K H (.ref a) (.exc hd i)
inductive RpAll (K : PySem.W.Frag) (H : Hp) : List V → List D → Prop
  | nil : RpAll K H [] []
  | cons {v : V} {vs : List V} {d : D} {ds : List D} : Rp K H v d → RpAll K H vs ds → RpAll K H (v :: vs) (d :: ds)
end
theorem RpAll.len {K : PySem.W.Frag} {H : Hp} : ∀ {xs : List V} {ds : List D}, RpAll K H xs ds → xs.length = ds.length
  | _, _, .nil => rfl
  | _, _, .cons _ h => by simp [h.len]
/-! ### an address stands for one datum alone -/
theorem exq_inj {a C C' t t' : Addr} {d d' : Option Addr} {H : Hp} {P : Program} {w : World} {h : Heap} (hok : HOk P w H h) (e : H a = some (exq a C d t)) (e' : H a = some (exq a C' d' t')) : C = C' ∧ d = d' ∧ t = t' := by
  have q := (exq_at hok e).symm.trans (exq_at hok e')
  injection q with q
  injection q with q1 q2 q3 q4
  injection q1 with q1
  injection q3 with q3
  have q5 : ([Value.ref t, Value.none, Value.none, Value.none, Value.bool false, Value.none] : List Value) = [Value.ref t', Value.none, Value.none, Value.none, Value.bool false, Value.none] := congrArg Array.toList q3
  injection q5 with q6 _
  injection q6 with q6
  exact ⟨q1, q2, q6⟩
theorem zip_keys {ks ls : List Str} {xs ys : List V} (h1 : ks.length = xs.length) (h2 : ls.length = ys.length) (e : List.zipWith (fun k v => ((Sum.inr k : Key), v)) ks xs = List.zipWith (fun k v => (Sum.inr k, v)) ls ys) : ks = ls ∧ xs = ys := by
  induction ks generalizing ls xs ys with
  | nil =>
    cases xs with
    | nil =>
      cases ls with
      | nil => cases ys with
        | nil => exact ⟨rfl, rfl⟩
        | cons _ _ => simp at h2
      | cons _ _ => cases ys with
        | nil => simp at h2
        | cons _ _ => simp at e
    | cons _ _ => simp at h1
  | cons k ks ih =>
    cases xs with
    | nil => simp at h1
    | cons x xs =>
      cases ls with
      | nil => simp at e
      | cons l ls =>
        cases ys with
        | nil => simp at h2
        | cons y ys =>
          simp only [List.zipWith_cons_cons, List.cons.injEq, Prod.mk.injEq, Sum.inr.injEq] at e
          obtain ⟨⟨e1, e2⟩, e3⟩ := e
          obtain ⟨h3, h4⟩ := ih (by simpa using h1) (by simpa using h2) e3
          exact ⟨by rw [e1, h3], by rw [e2, h4]⟩
section
variable {K : PySem.W.Frag} {H : Hp} {P : Program} {w : World} {h : Heap} (hok : HOk P w H h)
include hok
mutual
theorem Rp.fn : ∀ {v : V} {d d' : D}, Rp K H v d → Rp K H v d' → d = d'
  | _, _, _, .non, q => by cases q; rfl
  | _, _, _, .bl b, q => by cases q; rfl
  | _, _, _, .int i, q => by cases q; rfl
  | _, _, _, .str x, q => by cases q; rfl
  | _, _, _, .lst e r, q => by
    cases q with
    | lst e' r' =>
      rw [e] at e'
      cases e'
      rw [RpAll.fn r r']
    | tup e' _ => rw [e] at e'; cases e'
    | dic e' _ _ => rw [e] at e'; cases e'
    | exc e' _ _ _ _ _ => rw [e] at e'; exact absurd (Option.some.inj e').symm exq_lst
  | _, _, _, .tup e r, q => by
    cases q with
    | lst e' r' => rw [e] at e'; cases e'
    | tup e' r' =>
      rw [e] at e'
      cases e'
      rw [RpAll.fn r r']
    | dic e' _ _ => rw [e] at e'; cases e'
    | exc e' _ _ _ _ _ => rw [e] at e'; exact absurd (Option.some.inj e').symm exq_tup
  | _, _, _, .dic e l r, q => by
    cases q with
    | lst e' r' => rw [e] at e'; cases e'
    | tup e' r' => rw [e] at e'; cases e'
    | dic e' l' r' =>
      rw [e] at e'
      injection e' with e'
      injection e' with e'
      obtain ⟨h1, h2⟩ := zip_keys l l' e'
      subst h1
      subst h2
      rw [RpAll.fn r r']
    | exc e' _ _ _ _ _ => rw [e] at e'; exact absurd (Option.some.inj e').symm exq_dK
  | _, _, _, .exc e _ e2 s _ _, q => by
    cases q with
    | lst e' r' => rw [e] at e'; exact absurd (Option.some.inj e') exq_lst
    | tup e' r' => rw [e] at e'; exact absurd (Option.some.inj e') exq_tup
    | dic e' _ _ => rw [e] at e'; exact absurd (Option.some.inj e') exq_dK
    | exc e' _ e2' s' _ _ =>
      obtain ⟨h1, _, h3⟩ := exq_inj hok e e'
      subst h1
      subst h3
      rw [e2] at e2'
      cases e2'
      obtain ⟨cd, h4, h5⟩ := s.nm
      obtain ⟨cd', h4', h5'⟩ := s'.nm
      rw [h4] at h4'
      cases h4'
      rw [← h5, ← h5']
theorem RpAll.fn : ∀ {vs : List V} {ds ds' : List D}, RpAll K H vs ds → RpAll K H vs ds' → ds = ds'
  | _, _, _, .nil, q => by cases q; rfl
  | _, _, _, .cons r rs, q => by
    cases q with
    | cons r' rs' => rw [Rp.fn r r', RpAll.fn rs rs']
end
end
end Gy

namespace Gy
open PySem L2 PySem.Spec PyProof.Rows
open PySem.GyRX (ShowC)
theorem zip_len : ∀ {ks vs : List Str}, ks.length = vs.length → (∀ k ∈ ks, ∃ p ∈ List.zipWith (fun k v : Str => k ++ ": " ++ v) ks vs, k.length ≤ p.length) ∧ (∀ v ∈ vs, ∃ p ∈ List.zipWith (fun k v : Str => k ++ ": " ++ v) ks vs, v.length ≤ p.length)
  | [], [], _ => ⟨(fun _ h => nomatch h), fun _ h => nomatch h⟩
  | [], _ :: _, h => by simp at h
  | _ :: _, [], h => by simp at h
  | k :: ks, v :: vs, h => by
    obtain ⟨h1, h2⟩ := zip_len (ks := ks) (vs := vs) (by simpa using h)
    refine ⟨fun z hz => ?_, fun z hz => ?_⟩
    · rcases List.mem_cons.mp hz with e | hz
      · exact ⟨_, List.mem_cons_self, by rw [e, strLen_append, strLen_append]; omega⟩
      · obtain ⟨p, hp, q⟩ := h1 z hz
        exact ⟨p, List.mem_cons_of_mem _ hp, q⟩
    · rcases List.mem_cons.mp hz with e | hz
      · exact ⟨_, List.mem_cons_self, by rw [e, strLen_append]; omega⟩
      · obtain ⟨p, hp, q⟩ := h2 z hz
        exact ⟨p, List.mem_cons_of_mem _ hp, q⟩
theorem shownAll_len : ∀ ds : List D, (D.shownAll ds).length = ds.length
  | [] => rfl
  | _ :: ds => by simp [D.shownAll, shownAll_len ds]
/-- the addresses that a datum hangs on -/
def AtMost (K : PySem.W.Frag) (H : Hp) (n : Nat) (bs : List Addr) : Prop := ∀ b ∈ bs, ∃ d, Rp K H (.ref b) d ∧ d.depth ≤ n
theorem AtMost.not {K : PySem.W.Frag} {H : Hp} {P : Program} {w : World} {h : Heap} (hok : HOk P w H h) {a : Addr} {d : D} {n : Nat} {bs : List Addr} (r : Rp K H (.ref a) d) (hd : n < d.depth) (hb : AtMost K H n bs) : a ∉ bs := fun hm => by
  obtain ⟨d', r', hn⟩ := hb a hm
  have e := Rp.fn hok r r'
  rw [e] at hd
  omega
theorem AtMost.mono {K : PySem.W.Frag} {H : Hp} {n m : Nat} {bs : List Addr} (h : AtMost K H n bs) (hn : n ≤ m) : AtMost K H m bs := fun b hb =>
  let ⟨d, r, e⟩ := h b hb
  ⟨d, r, Nat.le_trans e hn⟩
theorem AtMost.append {K : PySem.W.Frag} {H : Hp} {n : Nat} {bs cs : List Addr} (h1 : AtMost K H n bs) (h2 : AtMost K H n cs) : AtMost K H n (bs ++ cs) := fun b hb =>
  (List.mem_append.mp hb).elim (h1 b) (h2 b)
theorem AtMost.cons {K : PySem.W.Frag} {H : Hp} {a : Addr} {d : D} {n : Nat} {bs : List Addr} (r : Rp K H (.ref a) d) (hn : n ≤ d.depth) (hb : AtMost K H n bs) : AtMost K H d.depth (a :: bs) := fun b hm => by
  rcases List.mem_cons.mp hm with e | hm
  · rw [e]
    exact ⟨d, r, Nat.le_refl _⟩
  · exact hb.mono hn b hm
theorem keys_repr {P : Program} {w : World} {bs : List Addr} {h : Heap} {n : Nat} : ∀ {ks : List Str} {xs : List V} {kvs : List (Key × Value)} {es : List DictEntry}, KV (List.zipWith (fun k v => ((Sum.inr k : Key), v)) ks xs) kvs → Pairs (mixKind P w) es kvs → ks.length = xs.length →
    (∀ k ∈ ks, (reprText k).length ≤ sizeLine) → ReprAllK P w bs h n (es.map (·.key)) (ks.map reprText) ∧ Vals xs (es.map (·.val))
  | [], [], _, _, r, q, _, _ => by
    cases r
    cases q
    exact ⟨.nil, .nil⟩
  | [], _ :: _, _, _, _, _, h, _ => by simp at h
  | _ :: _, [], _, _, _, _, h, _ => by simp at h
  | k :: ks, x :: xs, _, _, r, q, hl, hz => by
    cases r with
    | cons r1 r2 =>
      cases q with
      | cons q1 q2 q3 =>
        obtain ⟨e1, e2⟩ := r1
        obtain ⟨h1, h2⟩ := keys_repr (bs := bs) (h := h) (n := n) (ks := ks) (xs := xs) r2 q3 (by simpa using hl) fun k hk => hz k (List.mem_cons_of_mem _ hk)
        rename_i kv kvs e es
        have q1' : keyIs kv.1 e.key = true := q1
        rw [← e1] at q1'
        rcases keyIs_shape q1' with ⟨i, t, z1, _⟩ | ⟨y, t, z1, z2⟩
        · cases z1
        · injection z1 with z1
          subst z1
          refine ⟨?_, .cons (by show L2.RelV x e.val; rw [q2]; exact e2) h2⟩
          refine .cons ?_ h1
          show ReprK P w bs h n e.key (reprText k)
          rw [z2]
          exact .of_is (ReprIs.str _ t (hz _ List.mem_cons_self)) _ _ _
section
variable {X : Cx} {pins : List (Addr × Obj)} {σ : L2.St} {H : Hp} {s : Shared}
theorem exc_inst {a C t0 : Addr} {d : Option Addr} (I : Inv X pins σ H s) (e : H a = some (exq a C d t0)) (e2 : ∀ dd, d = some dd → ∃ fs, H dd = some (exd dd fs)) :
    ∃ od, PySem.W.InstAt s.heap a { cls := .ref C, dict := d, data := .fields #[.ref t0, .none, .none, .none, .bool false, .none] } C od := by
  have ha := exq_at I.hok e
  cases d with
  | none => exact ⟨none, ha, rfl, rfl, trivial⟩
  | some dd =>
    obtain ⟨fs, ed⟩ := e2 dd rfl
    obtain ⟨mA, hns, hr⟩ := exd_at I.hok ed
    obtain ⟨od, ho, hl⟩ := lookIn_ns hns
    exact ⟨some od, ha, rfl, rfl, ho⟩
theorem int_tup {t0 : Addr} {i : Int} (I : Inv X pins σ H s) (e : H t0 = some (.tup [.int i])) : ∃ tk, s.heap.TupAt t0 [.int i tk] := by
  obtain ⟨_, its, r, o, h1, h2, n, h3⟩ := (show ObjOk X.prog X.w H s.heap t0 (.tup [.int i]) from I.hok t0 _ e)
  cases r with
  | cons r1 r2 =>
    cases r2
    obtain ⟨t, rfl⟩ := r1
    exact ⟨t, o, n, h1, h2, h3⟩
mutual
theorem Rp.reprK (I : Inv X pins σ H s) : ∀ {v : V} {d : D} {u : Value}, Rp X.K H v d → RelV v u → d.ok = true → d.shown.length ≤ sizeLine → ∃ bs, AtMost X.K H d.depth bs ∧ ReprK X.prog X.w bs s.heap d.depth u d.shown
  | _, _, _, .non, r, _, _ => by
    cases r
    exact ⟨[], (fun _ h => nomatch h), by simp only [D.shown]; exact .of_is ReprIs.none _ _ _⟩
  | _, _, _, .bl b, r, _, _ => by
    cases r
    exact ⟨[], (fun _ h => nomatch h), by simp only [D.shown]; exact .of_is (ReprIs.bool b) _ _ _⟩
  | _, _, _, .int i, r, ho, _ => by
    obtain ⟨t, rfl⟩ := r
    exact ⟨[], (fun _ h => nomatch h), by simp only [D.shown]; exact .of_is (ReprIs.int t (by simpa [D.ok] using ho)) _ _ _⟩
  | _, _, _, .str x, r, _, hz => by
    obtain ⟨t, rfl⟩ := r
    exact ⟨[], (fun _ h => nomatch h), by simp only [D.shown]; exact .of_is (ReprIs.str x t (by simpa only [D.shown] using hz)) _ _ _⟩
  | _, _, _, .lst (a := a) (xs := xs) (ds := ds) e ha, r, ho, hz => by
    cases r
    have hz' : (listText (D.shownAll ds)).length ≤ sizeLine := by simpa only [D.shown] using hz
    obtain ⟨_, its, n, rv, hg⟩ := (show ObjOk X.prog X.w H s.heap a (.lst xs) from I.hok a _ e)
    obtain ⟨bs, hb, hk⟩ := RpAll.reprK I ha rv (by simpa [D.ok] using ho) (fun t ht => Nat.le_trans (listText_mem_le ht) hz')
    have R : Rp X.K H (.ref a) (.lst ds) := .lst e ha
    have hna : a ∉ bs := AtMost.not I.hok R (by simp only [D.depth]; omega) hb
    refine ⟨a :: bs, AtMost.cons R (by simp only [D.depth]; omega) hb, ?_⟩
    simp only [D.depth, D.shown]
    cases its with
    | nil =>
      cases rv
      cases ha
      simp only [D.shownAll, listText_nil]
      exact ReprK.listEmpty hg rfl rfl
    | cons x l => exact ReprK.list hg rfl rfl hna (by simpa using hk.length_eq) (fun i y e => hk.item i y (by simpa using e))
  | _, _, _, .tup (a := a) (xs := xs) (ds := ds) e ha, r, ho, hz => by
    cases r
    have hz' : (tupleText (D.shownAll ds)).length ≤ sizeLine := by simpa only [D.shown] using hz
    obtain ⟨_, its, rv, o, hg, hc, n, hd⟩ := (show ObjOk X.prog X.w H s.heap a (.tup xs) from I.hok a _ e)
    obtain ⟨bs, hb, hk⟩ := RpAll.reprK I ha rv (by simpa [D.ok] using ho) (fun t ht => Nat.le_trans (tupleText_mem_le ht) hz')
    have R : Rp X.K H (.ref a) (.tup ds) := .tup e ha
    have hna : a ∉ bs := AtMost.not I.hok R (by simp only [D.depth]; omega) hb
    refine ⟨a :: bs, AtMost.cons R (by simp only [D.depth]; omega) hb, ?_⟩
    simp only [D.depth, D.shown]
    exact ReprK.tuple hg hc hd hna hk
  | _, _, _, .dic (a := a) (ks := ks) (xs := xs) (ds := ds) e hl ha, r, ho, hz => by
    cases r
    have hz' : (dictText (List.zipWith (fun k v : Str => k ++ ": " ++ v) (ks.map reprText) (D.shownAll ds))).length ≤ sizeLine := by simpa only [D.shown] using hz
    obtain ⟨_, ya, va, ra, o, es, ep, hg, hx, hdat, _, hp, _⟩ := (show ObjOk X.prog X.w H s.heap a (.dK (List.zipWith (fun k v => (Sum.inr k, v)) ks xs)) from I.hok a _ e)
    have hlen : (ks.map reprText).length = (D.shownAll ds).length := by rw [List.length_map, shownAll_len, hl]; exact ha.len
    obtain ⟨z1, z2⟩ := zip_len hlen
    have ho' : D.okAll ds = true := by
      simp only [D.ok, Bool.and_eq_true] at ho
      exact ho.2
    obtain ⟨k1, rv⟩ := keys_repr (P := X.prog) (w := X.w) (bs := ([] : List Addr)) (h := s.heap) (n := D.depthAll ds) ra hp hl (fun k hk => by
      obtain ⟨p, hp, hq⟩ := z1 (reprText k) (List.mem_map_of_mem hk)
      exact Nat.le_trans hq (Nat.le_trans (dictText_mem_le hp) hz'))
    obtain ⟨bs, hb, k2⟩ := RpAll.reprK I ha rv ho' (fun t ht => by
      obtain ⟨p, hp, hq⟩ := z2 t ht
      exact Nat.le_trans hq (Nat.le_trans (dictText_mem_le hp) hz'))
    have R : Rp X.K H (.ref a) (.dic ks ds) := .dic e hl ha
    have hna : a ∉ bs := AtMost.not I.hok R (by simp only [D.depth]; omega) hb
    refine ⟨a :: bs, AtMost.cons R (by simp only [D.depth]; omega) hb, ?_⟩
    simp only [D.depth, D.shown]
    exact ReprK.dict hg hx.1 hdat ya hna (ReprEntriesK.of_two es.toList _ _ (k1.more_le (fun b hb => absurd hb List.not_mem_nil) (Nat.le_refl _)) k2)
  | _, _, _, .exc (a := a) e e2 e3 T _ _, r, ho, hz => by
    cases r
    obtain ⟨od, J⟩ := exc_inst I e e2
    obtain ⟨tk, ht⟩ := int_tup I e3
    exact ⟨[], (fun _ h => nomatch h), by simp only [D.depth, D.shown]; exact PySem.GyRX.reprK T I.kIn J rfl rfl ht (by simpa [D.ok] using ho)⟩
theorem RpAll.reprK (I : Inv X pins σ H s) : ∀ {vs : List V} {ds : List D} {us : List Value}, RpAll X.K H vs ds → Vals vs us → D.okAll ds = true → (∀ t ∈ D.shownAll ds, t.length ≤ sizeLine) → ∃ bs, AtMost X.K H (D.depthAll ds) bs ∧ ReprAllK X.prog X.w bs s.heap (D.depthAll ds) us (D.shownAll ds)
  | _, _, _, .nil, r, _, _ => by
    cases r
    exact ⟨[], (fun _ h => nomatch h), by simp only [D.shownAll]; exact .nil⟩
  | _, _, _, .cons (d := d) (ds := ds) h hs, r, ho, hz => by
    cases r with
    | cons r1 r2 =>
      have ho' : d.ok = true ∧ D.okAll ds = true := by simpa [D.okAll] using ho
      obtain ⟨b1, hb1, k1⟩ := Rp.reprK I h r1 ho'.1 (hz _ (by simp only [D.shownAll]; exact List.mem_cons_self ..))
      obtain ⟨b2, hb2, k2⟩ := RpAll.reprK I hs r2 ho'.2 (fun t ht => hz t (by simp only [D.shownAll]; exact List.mem_cons_of_mem _ ht))
      refine ⟨b1 ++ b2, ?_, ?_⟩
      · simp only [D.depthAll]
        exact (hb1.mono (Nat.le_max_left _ _)).append (hb2.mono (Nat.le_max_right _ _))
      · simp only [D.depthAll, D.shownAll]
        exact .cons ((k1.more fun b hb => List.mem_append_left _ hb).level_le (Nat.le_max_left _ _)) (k2.more_le (fun b hb => List.mem_append_right _ hb) (Nat.le_max_right _ _))
end
end
end Gy

namespace Gy
open PySem L2 PySem.Spec PyProof.Rows
open PySem.GyRX (ShowC)
section
variable {X : Cx}
/-- repr(x) of data that may be shown -/
def rRepr (K : PySem.W.Frag) : List V → Hp → VK → Prop := fun xs H Q => ∃ x d, xs = [x] ∧ Rp K H x d ∧ d.ok = true ∧ d.shown.length ≤ sizeLine ∧ d.depth ≤ 40 ∧ Q (.str d.shown) H
theorem call_reprD (hg : X.A.guards = some []) (hu : X.A.units + 64 < cLine) : CallR X (.builtin "repr") (rRepr X.K) := by
  intro pins s σ H xs us Q I r h
  obtain ⟨x, d, rfl, hr, ho, hz, hd, q⟩ := h
  obtain ⟨u, rfl, ru⟩ := vals1 r
  have fin : ∀ h' u tk, (∀ b o, s.heap.get? b = some o → h'.get? b = some o) → EP X pins σ Q (.str d.shown u) { s with heap := h', toks := tk } := fun h' u tk hk => ⟨.str d.shown, H, I.kept (t' := tk) hk, ⟨u, rfl⟩, q⟩
  have hg1 : X.A.in1.guards = some [] := hg
  cases hr with
  | non =>
    cases ru
    exact PySem.P.repr_of_none (fin s.heap _ _ fun _ _ e => e)
  | bl b =>
    cases ru
    exact PySem.P.repr_of_bool (fin s.heap _ _ fun _ _ e => e)
  | int i =>
    obtain ⟨t, rfl⟩ := ru
    exact PySem.P.repr_of_int (by simpa [D.ok] using ho) (fin s.heap _ _ fun _ _ e => e)
  | str x =>
    obtain ⟨t, rfl⟩ := ru
    exact PySem.P.repr_of_str (fin s.heap _ _ fun _ _ e => e) (by simpa only [D.shown] using hz)
  | @lst a xs ds e ha =>
    cases ru
    have hz' : (listText (D.shownAll ds)).length ≤ sizeLine := by simpa only [D.shown] using hz
    obtain ⟨_, its, n, rv, hgt⟩ := (show ObjOk X.prog X.w H s.heap a (.lst xs) from I.hok a _ e)
    obtain ⟨bs, hb, hk⟩ := RpAll.reprK I ha rv (by simpa [D.ok] using ho) (fun t ht => Nat.le_trans (listText_mem_le ht) hz')
    have R : Rp X.K H (.ref a) (.lst ds) := .lst e ha
    have hna : a ∉ bs := AtMost.not I.hok R (by simp only [D.depth]; omega) hb
    simp only [D.depth] at hd
    refine call_repr_slot (by omega) ⟨_, hgt, rfl⟩ F.slot_list_repr.toG ?_
    simp only [D.shown] at fin
    cases its with
    | nil =>
      cases rv
      cases ha
      simp only [D.shownAll, listText_nil] at fin
      exact call_list_repr_empty ⟨_, hgt, rfl⟩ hgt rfl ⟨_, _, rfl, fin s.heap _ _ fun _ _ e => e⟩
    | cons x l => exact call_list_reprK hgt rfl rfl hna (by simpa using hk.length_eq) (fun i y e => hk.item i y (by simpa using e)) hg1 (fun b _ => Clear.nil b) (by show X.A.units + 1 + _ < cLine; omega) (fun _ _ e => e) (fun h' u tk hk' => ⟨_, _, rfl, fin h' u tk hk'⟩) hz'
  | @tup a xs ds e ha =>
    cases ru
    have hz' : (tupleText (D.shownAll ds)).length ≤ sizeLine := by simpa only [D.shown] using hz
    obtain ⟨_, its, rv, o, hgt, hc, n, hdat⟩ := (show ObjOk X.prog X.w H s.heap a (.tup xs) from I.hok a _ e)
    obtain ⟨bs, hb, hk⟩ := RpAll.reprK I ha rv (by simpa [D.ok] using ho) (fun t ht => Nat.le_trans (tupleText_mem_le ht) hz')
    have R : Rp X.K H (.ref a) (.tup ds) := .tup e ha
    have hna : a ∉ bs := AtMost.not I.hok R (by simp only [D.depth]; omega) hb
    simp only [D.depth] at hd
    refine call_repr_slot (by omega) ⟨_, hgt, hc⟩ F.slot_tuple_repr ?_
    simp only [D.shown] at fin
    exact call_tuple_reprK hgt hc hdat hna hk hg1 (fun b _ => Clear.nil b) (by show X.A.units + 1 + _ < cLine; omega) (fun _ _ e => e) (fun h' u tk hk' => ⟨_, _, rfl, fin h' u tk hk'⟩) hz'
  | @dic a ks xs ds e hl ha =>
    cases ru
    have hz' : (dictText (List.zipWith (fun k v : Str => k ++ ": " ++ v) (ks.map reprText) (D.shownAll ds))).length ≤ sizeLine := by simpa only [D.shown] using hz
    obtain ⟨_, ya, va, ra, o, es, ep, hgt, hx, hdat, _, hp, _⟩ := (show ObjOk X.prog X.w H s.heap a (.dK (List.zipWith (fun k v => (Sum.inr k, v)) ks xs)) from I.hok a _ e)
    have hlen : (ks.map reprText).length = (D.shownAll ds).length := by rw [List.length_map, shownAll_len, hl]; exact ha.len
    obtain ⟨z1, z2⟩ := zip_len hlen
    have ho' : D.okAll ds = true := by
      simp only [D.ok, Bool.and_eq_true] at ho
      exact ho.2
    obtain ⟨k1, rv⟩ := keys_repr (P := X.prog) (w := X.w) (bs := ([] : List Addr)) (h := s.heap) (n := D.depthAll ds) ra hp hl (fun k hk => by
      obtain ⟨p, hp, hq⟩ := z1 (reprText k) (List.mem_map_of_mem hk)
      exact Nat.le_trans hq (Nat.le_trans (dictText_mem_le hp) hz'))
    obtain ⟨bs, hb, k2⟩ := RpAll.reprK I ha rv ho' (fun t ht => by
      obtain ⟨p, hp, hq⟩ := z2 t ht
      exact Nat.le_trans hq (Nat.le_trans (dictText_mem_le hp) hz'))
    have R : Rp X.K H (.ref a) (.dic ks ds) := .dic e hl ha
    have hna : a ∉ bs := AtMost.not I.hok R (by simp only [D.depth]; omega) hb
    simp only [D.depth] at hd
    refine call_repr_slot (by omega) ⟨_, hgt, hx.1⟩ F.slot_dict_repr ?_
    simp only [D.shown] at fin
    exact call_dict_reprK hgt hx.1 hdat ya hna (ReprEntriesK.of_two es.toList _ _ (k1.more_le (fun b hb => absurd hb List.not_mem_nil) (Nat.le_refl _)) k2) hg1 (fun b _ => Clear.nil b) (by show X.A.units + 1 + _ < cLine; omega) (fun _ _ e => e) (fun h' u tk hk' => ⟨_, _, rfl, fin h' u tk hk'⟩) hz'
  | @exc a C t0 d hd' i e e2 e3 T _ _ =>
    cases ru
    obtain ⟨od, J⟩ := exc_inst I e e2
    obtain ⟨tk, ht⟩ := int_tup I e3
    simp only [D.shown] at fin hz
    exact PySem.GyRX.call_repr T I.kIn J rfl rfl ht (by simpa [D.ok] using ho) (by omega) (fun u tk' => fin s.heap u tk' fun _ _ e => e) hz
end
/-! ### == of a thing and itself, of two lists of the same things -/
theorem rc_exc {A : Around} {prog : Program} {w : World} {E : Value → Shared → Prop} {s : Shared} {K : PySem.W.Frag} {x C : Addr} {ox : Obj} {od : Option Obj} {Q : Value → Shared → Prop} (hu : A.units < cLine) (X : K.In s.heap) (I : PySem.W.InstAt s.heap x ox C od)
    (hm : PySem.W.mroIn K C (.type "object") = some true) (hs : PySem.W.findIn K (.ref C) "__eq__" = some (some (.builtin "object.__eq__"))) (hq : Q (.bool true) s) : wpAny (model prog w) A (richCompare .Eq (.ref x) (.ref x)) Q E s := by
  have one : wpAny (model prog w) A (tryCompare (.ref x) "__eq__" (.ref x)) (fun r s' => r = some (.bool true) ∧ s' = s) E s := by
    unfold tryCompare
    refine wpAny_bind (HN.ifBound_objEq X I hs ?_)
    refine wpAny_call (codeAny_call_builtin F.cmp_object.eq.plain F.cmpEntry_eq (PySem.W.check_slot F.cmpKind_eq F.cmpSplit_eq (I.type.andThen (PySem.W.looks_mroIn X hm)) (F.cmpArgs_eq _ _) (objEq_entry_same ?_)))
    exact wpAny_pure ⟨rfl, rfl⟩
  simp only [richCompare, cmpInfo_Eq, oneThing_ref]
  refine wpAny_holding (wpAny_bind (wpAny_cRoomFor hu ?_))
  refine wpAny_bind (I.type.here (wpAny_bind (I.type.here ?_)))
  have e : (Value.ref C != Value.ref C) = false := by simp
  simp only [e, Bool.false_eq_true, if_false]
  refine wpAny_bind (wpAny_pure ?_)
  simp only [Bool.not_false, if_true]
  refine wpAny_bind (m := tryCompare (.ref x) _ (.ref x)) (wpAny_mono one (fun r s1 z => ?_) fun _ _ e => e)
  obtain ⟨z1, z2⟩ := z
  subst z1
  subst z2
  exact wpAny_pure hq
end Gy

namespace Gy
open PySem L2 PySem.Spec PyProof.Rows
open PySem.GyRX (ShowC)
theorem rp_same {K : PySem.W.Frag} {H : Hp} {v : V} {d : D} (r : Rp K H v d) : EqV K H 1 v v := by
  cases r with
  | non => exact .inl ⟨rfl, rfl⟩
  | bl b => exact .inl ⟨rfl, rfl⟩
  | int i => exact .inl ⟨rfl, rfl⟩
  | str x => exact .inl ⟨rfl, rfl⟩
  | lst e _ => exact .inr (.inl ⟨_, rfl, rfl⟩)
  | tup e _ => exact .inr (.inl ⟨_, rfl, rfl⟩)
  | dic e _ _ => exact .inr (.inl ⟨_, rfl, rfl⟩)
  | exc e _ _ _ _ _ => exact .inr (.inl ⟨_, rfl, rfl⟩)
theorem rpAll_same {K : PySem.W.Frag} {H : Hp} : ∀ {vs : List V} {ds : List D}, RpAll K H vs ds → Paired (EqV K H 1) vs vs
  | _, _, .nil => .nil
  | _, _, .cons r rs => .cons (rp_same r) (rpAll_same rs)
theorem val_self : ∀ {ks : List (Key × V)}, (ks.map (·.1)).Nodup → ∀ p ∈ ks, valV ks p.1 = some p.2
  | [], _, p, h => absurd h List.not_mem_nil
  | q :: ks, nd, p, h => by
    rw [List.map_cons, List.nodup_cons] at nd
    rcases List.mem_cons.mp h with e | h
    · subst e
      simp [valV]
    · have hne : q.1 ≠ p.1 := fun e => nd.1 (e ▸ List.mem_map_of_mem h)
      have := val_self nd.2 p h
      simp only [valV] at this ⊢
      rw [List.find?_cons]
      simp [hne, this]
theorem kv_keys {ks : List (Key × V)} {vs : List (Key × Value)} (r : KV ks vs) : ks.map (·.1) = vs.map (·.1) := by
  unfold KV at r
  induction r with
  | nil => rfl
  | cons h _ ih => rw [List.map_cons, List.map_cons, h.1, ih]
section
variable {X : Cx}
def rEqA (K : PySem.W.Frag) : R2 := fun x y H Q => ((x = y ∧ ∃ d, Rp K H x d) ∨ ∃ a b xs ds, x = .ref a ∧ y = .ref b ∧ H a = some (.lst xs) ∧ H b = some (.lst xs) ∧ RpAll K H xs ds) ∧ Q (.bl true) H
theorem op_eqA (hu : X.A.units + 64 < cLine) : OpR X (compareOp .Eq) (rEqA X.K) := by
  intro pins s σ H x y v u Q I rx ry h
  obtain ⟨h, q⟩ := h
  have fin : EP X pins σ Q (.bool true) s := ⟨.bl true, H, I, rfl, q⟩
  rcases h with ⟨rfl, d, r⟩ | ⟨a, b, xs, ds, rfl, rfl, ha, hb, r⟩
  · cases r with
    | non => exact op_eq pins s σ H _ _ v u Q I rx ry ⟨rfl, by simpa using q⟩
    | bl b => exact op_eq pins s σ H _ _ v u Q I rx ry ⟨rfl, by simpa using q⟩
    | int i => exact op_eq pins s σ H _ _ v u Q I rx ry ⟨rfl, by simpa using q⟩
    | str z => exact op_eq pins s σ H _ _ v u Q I rx ry ⟨rfl, by simpa using q⟩
    | @lst a xs ds e ha => exact op_eqV hu pins s σ H _ _ v u Q I rx ry ⟨1, by decide, .inl ⟨a, a, xs, xs, rfl, rfl, SqL.of e, SqL.of e, rpAll_same ha⟩, q⟩
    | @tup a xs ds e ha =>
      cases rx
      cases ry
      obtain ⟨_, its, rv, o, hg, hc, n, hd⟩ := (show ObjOk X.prog X.w H s.heap a (.tup xs) from I.hok a _ e)
      refine SeqAt.rcIn_tuples (e := fun _ => true) (items := its.toArray) (items2 := its.toArray) ⟨o, hg, hc, n, hd⟩ ⟨o, hg, hc, n, hd⟩ (by omega) (fun j h1 h2 => (SeqAt.EqAt.same _).inModel _ _) ?_
      have e1 : ((List.range (min its.toArray.size its.toArray.size)).all fun _ => true) = true := List.all_eq_true.mpr fun _ _ => rfl
      rw [e1]
      simpa using fin
    | @dic a ks xs ds e hl ha =>
      obtain ⟨_, _, va, ra, o, es, ep, _, _, _, _, _, nd⟩ := (show ObjOk X.prog X.w H s.heap a (.dK (List.zipWith (fun k v => (Sum.inr k, v)) ks xs)) from I.hok a _ e)
      have nd' : ((List.zipWith (fun k v => ((Sum.inr k : Key), v)) ks xs).map (·.1)).Nodup := by rw [kv_keys ra]; exact nd
      refine op_eqV hu pins s σ H _ _ v u Q I rx ry ⟨1, by decide, .inr ⟨a, a, _, _, rfl, rfl, e, e, rfl, fun p hp => ⟨p.2, val_self nd' p hp, ?_⟩⟩, q⟩
      have mem : ∀ {ks : List Str} {xs : List V} {ds : List D}, RpAll X.K H xs ds → ∀ p ∈ List.zipWith (fun k v => ((Sum.inr k : Key), v)) ks xs, ∃ d, Rp X.K H p.2 d := by
        intro ks xs ds r
        induction xs generalizing ks ds with
        | nil => intro p hp; cases ks <;> simp at hp
        | cons x xs ih =>
          cases r with
          | cons r1 r2 =>
            intro p hp
            cases ks with
            | nil => simp at hp
            | cons k ks =>
              rw [List.zipWith_cons_cons] at hp
              rcases List.mem_cons.mp hp with e | hp
              · rw [e]
                exact ⟨_, r1⟩
              · exact ih r2 p hp
      obtain ⟨d, rd⟩ := mem ha p hp
      exact rp_same rd
    | @exc a C t0 d hd' i e e2 e3 T hm he =>
      cases rx
      cases ry
      obtain ⟨od, J⟩ := exc_inst I e e2
      exact rc_exc (by omega) I.kIn J hm he fin
  · exact op_eqV hu pins s σ H _ _ v u Q I rx ry ⟨1, by decide, .inl ⟨a, b, xs, xs, rfl, rfl, SqL.of ha, SqL.of hb, rpAll_same r⟩, q⟩
end
end Gy
namespace Gy
open PySem L2 PySem.Spec PyProof.Rows
abbrev sAlike : Stmt := top 34
/-- what is compared: a thing with itself, or two lists of the same things; it may be shown -/
def Alike (K : PySem.W.Frag) (H : Hp) (x y : V) : Prop := ∃ d, Rp K H x d ∧ Rp K H y d ∧ d.ok = true ∧ d.shown.length ≤ sizeLine ∧ d.depth ≤ 40 ∧ (x = y ∨ ∃ a b xs ds, x = .ref a ∧ y = .ref b ∧ H a = some (.lst xs) ∧ H b = some (.lst xs) ∧ RpAll K H xs ds)
def spAlike (K : PySem.W.Frag) : Sp := fun vs H Q _ => ∃ x y, vs = [x, y] ∧ Alike K H x y ∧ Q (.bl true) H
def NoGuard (A : Around) : Prop := A.guards = some []
section
variable {P : Program} {w : World} {K : PySem.W.Frag} {mg : Str → Option Value} {base : Heap}
theorem scAlike : FnScope ["_law_found", "_law_due"] ["_law_found", "_law_due"] (defScope sAlike) := ⟨rfl, rfl, rfl, by decide +kernel, rfl, by decide +kernel, by decide +kernel⟩
theorem ok_alike {f : Addr} {fd : FuncData} (F : Fun K "_law_alike" "_law_alike" sAlike f fd) (zR : mg "repr" = none) : FnG NoGuard P w K mg base 1 f fd ["_law_found", "_law_due"] (spAlike K) := by
  refine fn_ofG (c := false) F scAlike (fun A _ z => Bool.noConfusion z) (fun vs H Q E h => ?_) (fun cdv A outer s H vs Q E hG hr h => ?_)
  · obtain ⟨x, y, rfl, _⟩ := h
    rfl
  · obtain ⟨x, y, rfl, ⟨d, rx, ry, ho, hz, hd, hxy⟩, q⟩ := h
    have hg : (A.deeper (envOfC "_law_alike" (defScope sAlike) s.heap.objs.size f cdv)).guards = some [] := by
      have e : A.guards = some [] := hG
      show (A.deeper _).guards = _
      simpa [Around.deeper] using e
    have hu : (A.deeper (envOfC "_law_alike" (defScope sAlike) s.heap.objs.size f cdv)).units + 64 < cLine := by
      have := hr.un
      omega
    refine ⟨_, pss_one (ps_ret (pe_and (pe_cmpR (op_eqA hu) (pv 0) (pv 1) (nomark _)) (pe_one (pe_cmpR op_eq (pe_callB (call_reprD hg hu) (by rfl) zR (by decide +kernel) (pa_cons (pv 0) pa_nil)) (pe_callB (call_reprD hg hu) (by rfl) zR (by decide +kernel) (pa_cons (pv 1) pa_nil)) (nomark _))))), ?_⟩
    refine ⟨_, rfl, _, rfl, ⟨?_, _, rfl, iteT ⟨_, rfl, x, d, rfl, rx, ho, hz, hd, _, rfl, y, d, rfl, ry, ho, hz, hd, rfl, ?_⟩⟩⟩
    · rcases hxy with e | h
      · exact .inl ⟨e, d, rx⟩
      · exact .inr h
    · show Q (.bl (decide (V.str d.shown = V.str d.shown))) H
      rw [decide_eq_true rfl]
      exact q
end
end Gy

namespace Gy
open PySem L2 PySem.Spec PyProof.Rows
open PySem.GyRX (ShowC)
theorem PE.imp {X : Cx} {e : Expr} {t t' : TE} (h : PE X e t) (k : ∀ σ H Q, t' σ H Q → t σ H Q) : PE X e t' := ⟨fun pins s σ H Q I q => h.run pins s σ H Q I (k _ _ _ q)⟩
theorem PS.imp {X : Cx} {e : Stmt} {t t' : TS} (h : PS X e t) (k : ∀ D σ H, t' D σ H → t D σ H) : PS X e t' := ⟨fun pins s σ H D I q => h.run pins s σ H D I (k _ _ _ q)⟩
/-- an exception of the class at C with the fields fs, made of the values vs -/
def Err (H : Hp) (a C : Addr) (fs : List (Str × V)) (vs : List V) : Prop := ∃ d t, H a = some (exq a C (some d) t) ∧ H d = some (exd d fs) ∧ H t = some (.tup vs)
theorem Err.same {H H' : Hp} {a C : Addr} {fs : List (Str × V)} {vs : List V} (h : Err H a C fs vs) (s : Same H H') : Err H' a C fs vs :=
  let ⟨d, t, h1, h2, h3⟩ := h
  ⟨d, t, s _ _ h1, s _ _ h2, s _ _ h3⟩
/-- .. with a dict that wasn't there in H0 -/
def ErrN (H0 H : Hp) (a C : Addr) (fs : List (Str × V)) (vs : List V) : Prop := ∃ d t, H0 d = none ∧ H0 t = none ∧ H a = some (exq a C (some d) t) ∧ H d = some (exd d fs) ∧ H t = some (.tup vs)
theorem ErrN.err {H0 H : Hp} {a C : Addr} {fs : List (Str × V)} {vs : List V} (h : ErrN H0 H a C fs vs) : Err H a C fs vs :=
  let ⟨d, t, _, _, h1, h2, h3⟩ := h
  ⟨d, t, h1, h2, h3⟩
theorem ErrN.of {H0 H : Hp} {a b C : Addr} {o : HO} {fs : List (Str × V)} {vs : List V} (h : ErrN (upd H0 b o) H a C fs vs) : ErrN H0 H a C fs vs :=
  let ⟨d, t, h0, h0', h1, h2, h3⟩ := h
  have un : ∀ {d : Addr}, upd H0 b o d = none → H0 d = none := fun {d} h0 => by
    by_cases e : d = b
    · rw [e, upd_same] at h0
      cases h0
    · rw [upd_ne e] at h0
      exact h0
  ⟨d, t, un h0, un h0', h1, h2, h3⟩
/-- an exception class of the program whose __init__ stores one thing, or two -/
structure ErrC (K : PySem.W.Frag) (mg : Str → Option Value) (G : Addr) : Prop where
  gG : mg "GoneError" = some (.ref G)
  rG : PySem.W.readsIn K G (.type "type") = true
  sG : PySem.W.specialIn K (.ref G) "__getattribute__" = some (some (.builtin "type.__getattribute__"))
  iG : PySem.W.findCls K (.ref G) (.type "type") "__init__" = some (.val (.builtin "ValueError.__init__"))
def spIni1 (K : PySem.W.Frag) (C : Addr) (f : Str) : Sp := fun vs H Q _ => ∃ (a t0 : Addr) (v : V), vs = [.ref a, v] ∧ H a = some (exq a C none t0) ∧ ∀ H' : Hp, (∀ b o, b ≠ a → H b = some o → H' b = some o) → ErrN H H' a C [(f, v)] [v] → Q .non H'
def spIni2 (K : PySem.W.Frag) (C : Addr) (f g : Str) : Sp := fun vs H Q _ => ∃ (a t0 : Addr) (v u : V), vs = [.ref a, v, u] ∧ H a = some (exq a C none t0) ∧ ∀ H' : Hp, (∀ b o, b ≠ a → H b = some o → H' b = some o) → ErrN H H' a C [(g, u), (f, v)] [v, u] → Q .non H'
abbrev sIni (i : Nat) : Stmt := inClass (top i) 0
section
variable {P : Program} {w : World} {K : PySem.W.Frag} {mg : Str → Option Value} {base : Heap}
theorem ini1_read {H : Hp} {a t0 C : Addr} {v : V} {f : Str} {Q : VK} (h : H a = some (exq a C none t0)) (k : ∀ H' : Hp, (∀ b o, b ≠ a → H b = some o → H' b = some o) → ErrN H H' a C [(f, v)] [v] → Q .non H')
    {t1 dx : Addr} (n1 : H t1 = none) (e1 : t1 ≠ a) (n2 : upd (upd H t1 (.tup [v])) a (exq a C none t1) dx = none) (e2 : dx ≠ a) :
    Q .non (upd (upd (upd (upd H t1 (.tup [v])) a (exq a C none t1)) dx (exd dx [(f, v)])) a (exq a C (some dx) t1)) := by
  have e3 : dx ≠ t1 := fun e => by
    rw [e, upd_ne e1, upd_same] at n2
    cases n2
  have n3 : H dx = none := by
    rw [upd_ne e2, upd_ne e3] at n2
    exact n2
  refine k _ (fun b o hb e => ?_) ⟨dx, t1, n3, n1, upd_same, by rw [upd_ne e2, upd_same], by rw [upd_ne e1, upd_ne (Ne.symm e3), upd_ne e1, upd_same]⟩
  rw [upd_ne hb]
  have q : upd (upd H t1 (.tup [v])) a (exq a C none t1) b = some o := by rw [upd_ne hb, upd_ne (ne_of_none e n1)]; exact e
  rw [upd_ne (ne_of_none q n2)]
  exact q
theorem ok_ini_NoKind {f C G : Addr} {fd : FuncData} (F : Fun K "__init__" "NoKind.__init__" (sIni 4) f fd) (T : ErrC K mg G) (E0 : OexC K C) (nF : PySem.W.findIn K (.ref C) "name" = some none) : FnOk P w K mg base CX0 1 f fd ["self", "name"] (spIni1 K C "name") := by
  have sc : FnScope ["self", "name"] ["self", "name"] (defScope (sIni 4)) := ⟨rfl, rfl, rfl, by decide +kernel, rfl, by decide +kernel, by decide +kernel⟩
  refine F.ok sc (fun vs H Q E h => ?_) (fun cdv A outer s H vs Q E hr h => ?_)
  · obtain ⟨a, t0, v, rfl, _⟩ := h
    rfl
  · obtain ⟨a, t0, v, rfl, h, k⟩ := h
    refine ⟨_, pss_cons (ps_expr (pe_qinit rfl T.gG T.rG T.sG T.iG (pa_cons (pv 0) (pa_cons (pv 1) pa_nil)))) (pss_one (ps_qst (pv 0) (pv 1))), ?_⟩
    refine ⟨_, rfl, _, rfl, a, C, t0, [v], rfl, (by decide : 1 ≤ 1000), E0, h, fun t1 n1 e1 => ?_⟩
    refine ⟨_, rfl, _, rfl, a, C, t1, rfl, E0, nF, .inl ⟨upd_same, fun dx n2 e2 => ini1_read h k n1 e1 n2 e2⟩⟩


end
/-- C(e), C(e, e'): an exception, made -/
def rErr (C : Addr) (g : List V → Option (List (Str × V))) : List V → Hp → VK → Prop := fun vs H1 Q => ∃ fs, g vs = some fs ∧ ∀ a H2, Same H1 H2 → H1 a = none → ErrN H1 H2 a C fs vs → Q (.ref a) H2
def g1 (f : Str) : List V → Option (List (Str × V))
  | [v] => some [(f, v)]
  | _ => none
def g2 (f g : Str) : List V → Option (List (Str × V))
  | [v, u] => some [(g, u), (f, v)]
  | _ => none
theorem same_made {H1 H2 : Hp} {a : Addr} {o : HO} (n : H1 a = none) (k : ∀ b u, b ≠ a → upd H1 a o b = some u → H2 b = some u) : Same H1 H2 := fun b u e => k b u (ne_of_none e n) (by rw [upd_ne (ne_of_none e n)]; exact e)
section
variable {X : Cx} {o e : Expr} {es : List Expr} {to te : TE} {ta : TA} {f n : Str} {p p' p1 p2 pos : Pos}
theorem pe_mkR {R : List V → Hp → VK → Prop} {x : Str} {C fI : Addr} {k : Nat} {fd : FuncData} {ps : List Str} {sp : Sp} (T : OexC X.K C) (iC : PySem.W.findIn X.K (.ref C) "__init__" = some (some (.ref fI))) (tI : PySem.W.typeIn X.K (.ref fI) = some (.type "function"))
    (F1 : FnOk X.prog X.w X.K X.mg X.base CX0 k fI fd ps sp) (hr : Room (k + 1) X.A) (hb : Binds X.K fd ps []) (hg : Gl X x) (hm : X.mg x = some (.ref C)) (ha : PA X (e :: es) ta) (hR : ∀ vs H1 Q, R vs H1 Q → vs.length ≤ 1000 ∧ ∀ a t0, H1 a = none → sp (.ref a :: vs) (upd H1 a (exq a C none t0)) (fun v H2 => v = .non ∧ Q (.ref a) H2) E0)
    (hdb : (x == ("__debug__" : Str)) = false := by decide) (he : starEach (e :: es) X.env = (false, eval e X.env) :: starEach es X.env := by rfl) (hpl : (backTo pos (starEach es X.env)).any (·.1) = false := by rfl) :
    PE X (.Call (.Name x p) (e :: es) [] pos) (fun σ H Q => ta σ H fun vs H1 => R vs H1 Q) := by
  refine ⟨fun pins s σ H Q I h => ?_⟩
  obtain ⟨nm, q, N, bs, bm, sn, sub, ab, col, dd, k0, k1, k2, k3, k5, hC, hbm⟩ := T.cls
  refine wpAny_Call_Name_kw (ld_glob I hg hm ?_ hdb)
  refine PySem.W.callWith_K (h₀ := X.base) I.ok.mod.kin T.kC (thn (ha.run pos pins s σ H _ I h) fun us s1 ⟨vs, H1, I1, r1, q0⟩ => ⟨I1.kIn, ?_⟩) he hpl
  obtain ⟨hz, q1⟩ := hR _ _ _ q0
  show wpAny _ _ (call (.ref C) us) _ _ _
  obtain ⟨hp, g, dr, tk, os⟩ := s1
  have hsz : hp.objs.size ≤ hp.objs.size + 1 := Nat.le_succ _
  have hn : H1 (hp.objs.size + 1) = none := I1.hok.fresh hsz
  have hq := q1 (hp.objs.size + 1) hp.objs.size hn
  have kk : ∀ b o, hp.get? b = some o → ((hp.push (PySem.W.kdv_tup us)).push (PySem.HandSPX.excO C hp.objs.size)).get? b = some o := fun b o e => Heap.get?_push_of_some _ (Heap.get?_push_of_some _ e)
  have hget : ((hp.push (PySem.W.kdv_tup us)).push (PySem.HandSPX.excO C hp.objs.size)).get? (hp.objs.size + 1) = some (PySem.HandSPX.excO C hp.objs.size) := by heap_get
  have I2 : Inv X pins σ (upd H1 (hp.objs.size + 1) (exq (hp.objs.size + 1) C none hp.objs.size)) ⟨(hp.push (PySem.W.kdv_tup us)).push (PySem.HandSPX.excO C hp.objs.size), g, dr, tk, os⟩ :=
    I1.laid (t' := tk) (a := hp.objs.size + 1) (o := exq (hp.objs.size + 1) C none hp.objs.size) (h' := (hp.push (PySem.W.kdv_tup us)).push (PySem.HandSPX.excO C hp.objs.size)) kk hsz (exq_ok hget)
  have r2 : Vals (V.ref (hp.objs.size + 1) :: vs) (Value.ref (hp.objs.size + 1) :: us) := .cons rfl r1
  have hl : (Value.ref (hp.objs.size + 1) :: us).length = ps.length := by
    have e := r2.length
    rw [F1.len _ _ _ _ hq] at e
    exact e.symm
  have hus : us.length ≤ sizeLine := by
    rw [← Paired.length r1, sizeLine_eq]
    omega
  have hb2 := hb ⟨(hp.push (PySem.W.kdv_tup us)).push (PySem.HandSPX.excO C hp.objs.size), g, dr, tk, os⟩ (Value.ref (hp.objs.size + 1) :: us) I2.kIn (by rw [List.append_nil]; exact hl)
  rw [List.append_nil] at hb2
  refine wpAny_call (PySem.HandSPX.call_own F.excBase_ValueError (fun Y => PySem.HandSPX.refsVE_contains Y bm hbm) (I1.kIn _ _ hC) (PySem.W.looks_findIn I1.kIn iC) (fun self => PySem.W.bind_fn I1.kIn self tI) hus
    (codeAny_mono (F1.run _ X.stack _ _ ⟨Value.ref (hp.objs.size + 1) :: us, []⟩ (Value.ref (hp.objs.size + 1) :: us) _ _ E0 (hr.make C us []) (I2.env0.make C us []) hb2 r2 hq) fun r s' hq' => ?_))
  cases r with
  | error er => exact False.elim hq'
  | ok fl =>
    cases fl with
    | ret u =>
      obtain ⟨v, H', I3, rv, ev, q3⟩ := I2.after hq'
      subst ev
      exact ⟨rv, ⟨V.ref (hp.objs.size + 1), H', I3, rfl, q3⟩⟩
    | next => exact False.elim hq'
    | brk => exact False.elim hq'
    | cont => exact False.elim hq'
end
section
variable {X : Cx} {e : Expr} {es : List Expr} {ta : TA} {p pos : Pos} {x : Str} {C fI : Addr} {fd : FuncData} {f g : Str} {k : Nat}
def tErr (C : Addr) (g : List V → Option (List (Str × V))) (ta : TA) : TE := fun σ H Q => ta σ H fun vs H1 => rErr C g vs H1 Q
theorem pe_err1 (T : OexC X.K C) (iC : PySem.W.findIn X.K (.ref C) "__init__" = some (some (.ref fI))) (tI : PySem.W.typeIn X.K (.ref fI) = some (.type "function")) (F1 : FnOk X.prog X.w X.K X.mg X.base CX0 k fI fd ["self", f] (spIni1 X.K C f)) (hr : Room (k + 1) X.A)
    (hb : Binds X.K fd ["self", f] []) (hg : Gl X x) (hm : X.mg x = some (.ref C)) (ha : PA X (e :: es) ta) (hdb : (x == ("__debug__" : Str)) = false := by decide)
    (he : starEach (e :: es) X.env = (false, eval e X.env) :: starEach es X.env := by rfl) (hpl : (backTo pos (starEach es X.env)).any (·.1) = false := by rfl) :
    PE X (.Call (.Name x p) (e :: es) [] pos) (tErr C (g1 f) ta) :=
  pe_mkR (R := rErr C (g1 f)) T iC tI F1 hr hb hg hm ha (fun vs H1 Q ⟨fs, e1, q⟩ => by
    match vs, e1 with
    | [v], e1 =>
      cases e1
      exact ⟨(by decide : 1 ≤ 1000), fun a t0 n => ⟨a, t0, v, rfl, upd_same, fun H' k e => ⟨rfl, q a H' (same_made n k) n e.of⟩⟩⟩) hdb he hpl
theorem pe_err2 (T : OexC X.K C) (iC : PySem.W.findIn X.K (.ref C) "__init__" = some (some (.ref fI))) (tI : PySem.W.typeIn X.K (.ref fI) = some (.type "function")) (F1 : FnOk X.prog X.w X.K X.mg X.base CX0 k fI fd ["self", f, g] (spIni2 X.K C f g)) (hr : Room (k + 1) X.A)
    (hb : Binds X.K fd ["self", f, g] []) (hg : Gl X x) (hm : X.mg x = some (.ref C)) (ha : PA X (e :: es) ta) (hdb : (x == ("__debug__" : Str)) = false := by decide)
    (he : starEach (e :: es) X.env = (false, eval e X.env) :: starEach es X.env := by rfl) (hpl : (backTo pos (starEach es X.env)).any (·.1) = false := by rfl) :
    PE X (.Call (.Name x p) (e :: es) [] pos) (tErr C (g2 f g) ta) :=
  pe_mkR (R := rErr C (g2 f g)) T iC tI F1 hr hb hg hm ha (fun vs H1 Q ⟨fs, e1, q⟩ => by
    match vs, e1 with
    | [v, u], e1 =>
      cases e1
      exact ⟨(by decide : 2 ≤ 1000), fun a t0 n => ⟨a, t0, v, u, rfl, upd_same, fun H' k e => ⟨rfl, q a H' (same_made n k) n e.of⟩⟩⟩) hdb he hpl
end
end Gy

namespace Gy
open PySem L2 PySem.Spec PyProof.Rows
section
variable {X : Cx} {pins : List (Addr × Obj)} {σ : L2.St} {H : Hp} {s : Shared}
theorem exd_ne_own {d : Addr} {fs : List (Str × V)} {x : Addr} : exd d fs ≠ .own x := exd_own
/-- an exception's dict, told as such -/
theorem Inv.swap {d : Addr} {fs : List (Str × V)} (I : Inv X pins σ H s) (e : H d = some (exd d fs)) : Inv X pins σ (upd H d (.xd fs)) s := by
  obtain ⟨mA, hns, rel⟩ := exd_at I.hok e
  have U : Un X.fs [] H (upd H d (.xd fs)) s.heap s.heap := {
    keep := fun b o q n _ _ => q
    slot := fun b o q n _ _ => ⟨o.slots, q⟩
    free := fun b o q n _ => by rw [upd_ne (fun z => by rw [z, e] at n; cases n)]; exact n
    there := fun b o q _ => ⟨o, q⟩
    tups := fun b xs q => by rw [upd_ne (at_ne e q exd_tup)]; exact q
    frzs := fun b o v q => by rw [upd_ne (at_ne e q exd_frz)]; exact q
    tbls := fun b ps q => ⟨#[], by rw [upd_ne (at_ne e q exd_tbl), q]; simp⟩ }
  have J := I.un (t' := s.toks) U fun b o q => by
    by_cases hb : b = d
    · subst hb
      rw [upd_same] at q
      cases q
      exact ⟨mA, hns, rel⟩
    · rw [upd_ne hb] at q
      exact (I.hok b o q).stay (fun c v hc z => z) (fun c hc => by rw [upd_ne (at_ne e hc exd_own)]; exact hc) (fun c xs hc => by rw [upd_ne (at_ne e hc exd_tup)]; exact hc)
  exact J
/-- an expression whose value is a new exception, raised -/
def rExq (K : PySem.W.Frag) (H0 : Hp) : V → Hp → XK → Prop := fun x H Q => ∃ a C d t, x = .ref a ∧ H0 a = none ∧ H a = some (exq a C d t) ∧ ExQ K C ∧ ((d = none ∧ Q (.ref C) none (delH H a)) ∨ ∃ dd fs, d = some dd ∧ H dd = some (exd dd fs) ∧ Q (.ref C) (some dd) (upd (delH H a) dd (.xd fs)))
theorem pmk_exq (K : PySem.W.Frag) (H0 : Hp) {e : Expr} {te : TE} (hK : X.K = K) (hH : X.H_0 = H0) (hx : X.ex = []) (he : PE X e te) :
    PMk X e (fun σ H Q => te σ H fun x H1 => rExq K H0 x H1 Q) := by
  subst hK hH
  intro pins s σ H Q I h
  refine wpAny_mono (he.run pins s σ H _ I h) (fun u s1 hu => ?_) fun _ _ x => x
  obtain ⟨v, H1, I1, r1, a, C, d, t, rfl, h0, ha, T, q⟩ := hu
  cases r1
  have hr : Raises X (.ref C) := raises_own T.oex.exC T.oex.tyC
  have ho := exq_at I1.hok ha
  obtain ⟨G, gs, ga, J⟩ := I1.untrack (φ := fun h => h.get? a = some ({ cls := .ref C, dict := d, data := .fields #[.ref t, .none, .none, .none, .bool false, .none] } : Obj)) ha (fr0_none h0) hx
  rcases q with ⟨rfl, q⟩ | ⟨dd, fs, rfl, ed, q⟩
  · exact ⟨a, _, _, { s1 with heap := G }, delH H1 a, .ref C, none, rfl, J, gs, ga, ho, ⟨rfl, rfl⟩, rfl, rfl, delH_same, rfl, I1.bare, hr, q⟩
  · have hda : dd ≠ a := fun z => by
      rw [z, ha] at ed
      obtain ⟨mA, hns, _⟩ := exd_at (h := s1.heap) (H := upd H1 a (exd a fs)) (dx := a) (fs := fs) (fun b o q => by
        by_cases hb : b = a
        · subst hb
          rw [upd_same] at q
          cases q
          have := I1.hok b _ ha
          rw [Option.some.inj ed] at this
          exact this.stay (fun _ _ _ z => z) (fun c hc => by
            by_cases hcb : c = b
            · rw [hcb, ha] at hc
              exact absurd (Option.some.inj hc) exq_own
            · rw [upd_ne hcb]; exact hc) (fun c xs hc => by
            by_cases hcb : c = b
            · rw [hcb, ha] at hc
              exact absurd (Option.some.inj hc) exq_tup
            · rw [upd_ne hcb]; exact hc)
        · rw [upd_ne hb] at q
          exact (I1.hok b o q).stay (fun _ _ _ z => z) (fun c hc => by
            by_cases hcb : c = a
            · rw [hcb, ha] at hc
              exact absurd (Option.some.inj hc) exq_own
            · rw [upd_ne hcb]; exact hc) (fun c xs hc => by
            by_cases hcb : c = a
            · rw [hcb, ha] at hc
              exact absurd (Option.some.inj hc) exq_tup
            · rw [upd_ne hcb]; exact hc)) upd_same
      obtain ⟨o, es, ep, e1, e2, _⟩ := hns
      rw [ho] at e1
      have z2 := Option.some.inj e1
      subst z2
      cases e2
    have ed' : delH H1 a dd = some (exd dd fs) := by rw [delH_ne hda]; exact ed
    have J2 := Inv.swap J ed'
    exact ⟨a, _, _, { s1 with heap := G }, upd (delH H1 a) dd (.xd fs), .ref C, some dd, rfl, J2, gs, ga, ho, ⟨rfl, rfl⟩, rfl, rfl, by rw [upd_ne (Ne.symm hda)]; exact delH_same, rfl, I1.bare, hr, q⟩
end
end Gy

namespace Gy
open PySem L2 PySem.Spec PyProof.Rows
open PySem.GyRX (ShowC)
mutual
theorem Rp.same {K : PySem.W.Frag} {H H' : Hp} (s : Same H H') : ∀ {v : V} {d : D}, Rp K H v d → Rp K H' v d
  | _, _, .non => .non
  | _, _, .bl b => .bl b
  | _, _, .int i => .int i
  | _, _, .str x => .str x
  | _, _, .lst e r => .lst (s _ _ e) (RpAll.same s r)
  | _, _, .tup e r => .tup (s _ _ e) (RpAll.same s r)
  | _, _, .dic e l r => .dic (s _ _ e) l (RpAll.same s r)
  | _, _, .exc e e2 e3 T m q => .exc (s _ _ e) (fun dd z => let ⟨fs, y⟩ := e2 dd z; ⟨fs, s _ _ y⟩) (s _ _ e3) T m q
theorem RpAll.same {K : PySem.W.Frag} {H H' : Hp} (s : Same H H') : ∀ {vs : List V} {ds : List D}, RpAll K H vs ds → RpAll K H' vs ds
  | _, _, .nil => .nil
  | _, _, .cons r rs => .cons (Rp.same s r) (RpAll.same s rs)
end
/-- a datum that may be shown, with room to spare -/
def Good (K : PySem.W.Frag) (H : Hp) (v : V) (d : D) : Prop := Rp K H v d ∧ d.ok = true ∧ d.shown.length ≤ 100000 ∧ d.depth ≤ 20
theorem Good.same {K : PySem.W.Frag} {H H' : Hp} {v : V} {d : D} (g : Good K H v d) (s : Same H H') : Good K H' v d := ⟨Rp.same s g.1, g.2⟩
theorem sizeLine_big : 1000000 ≤ sizeLine := by show 1000000 ≤ sizeLine; decide
theorem Good.alike {K : PySem.W.Frag} {H : Hp} {v : V} {d : D} (g : Good K H v d) : Alike K H v v :=
  ⟨d, g.1, g.1, g.2.1, Nat.le_trans g.2.2.1 (Nat.le_trans (by decide) sizeLine_big), Nat.le_trans g.2.2.2 (by decide), .inl rfl⟩
/-- two lists of the same good things, few -/
inductive Goods (K : PySem.W.Frag) (H : Hp) : List V → List D → Prop
  | nil : Goods K H [] []
  | cons {v : V} {vs : List V} {d : D} {ds : List D} : Good K H v d → Goods K H vs ds → Goods K H (v :: vs) (d :: ds)
theorem Goods.rp {K : PySem.W.Frag} {H : Hp} : ∀ {vs : List V} {ds : List D}, Goods K H vs ds → RpAll K H vs ds ∧ D.okAll ds = true ∧ ((D.shownAll ds).map (·.length)).sum ≤ 100000 * vs.length ∧ D.depthAll ds ≤ 20 ∧ ds.length = vs.length
  | _, _, .nil => ⟨.nil, rfl, Nat.zero_le _, Nat.zero_le _, rfl⟩
  | _, _, .cons g gs => by
    obtain ⟨h1, h2, h3, h4, h5⟩ := gs.rp
    obtain ⟨g1, g2, g3, g4⟩ := g
    refine ⟨.cons g1 h1, by simp [D.okAll, g2, h2], ?_, by simp only [D.depthAll]; omega, by simp [h5]⟩
    simp only [D.shownAll, List.map_cons, List.sum_cons, List.length_cons]
    omega
theorem Goods.same {K : PySem.W.Frag} {H H' : Hp} (s : Same H H') : ∀ {vs : List V} {ds : List D}, Goods K H vs ds → Goods K H' vs ds
  | _, _, .nil => .nil
  | _, _, .cons g gs => .cons (g.same s) (gs.same s)
theorem Goods.alike {K : PySem.W.Frag} {H : Hp} {a b : Addr} {vs : List V} {ds : List D} (g : Goods K H vs ds) (hl : vs.length ≤ 9) (ha : H a = some (.lst vs)) (hb : H b = some (.lst vs)) : Alike K H (.ref a) (.ref b) := by
  obtain ⟨h1, h2, h3, h4, h5⟩ := g.rp
  refine ⟨.lst ds, .lst ha h1, .lst hb h1, by simpa [D.ok] using h2, ?_, by simp only [D.depth]; omega, .inr ⟨a, b, vs, ds, rfl, rfl, ha, hb, h1⟩⟩
  simp only [D.shown]
  refine Nat.le_trans (listText_len_le _) (Nat.le_trans ?_ sizeLine_big)
  rw [shownAll_len, h5]
  omega
/-- isinstance(e, c), e the exception that a suite holds -/
def rIsX (K : PySem.W.Frag) (a : Addr) (cls : Value) (d : Option Addr) : List V → Hp → VK → Prop := fun xs H Q => ∃ (C : Addr) (c : V) (cv : Value) (b : Bool), xs = [.ref a, c] ∧ cls = .ref C ∧ ExQ K C ∧ (∀ dd, d = some dd → ∃ fs, H dd = some (.xd fs)) ∧
  (∀ u, RelV c u → u = cv) ∧ PySem.W.kitOne K (.ref C) cv = some b ∧ Q (.bl b) H
theorem call_isX {X : Cx} {a : Addr} {oe : Obj} {cls : Value} {d : Option Addr} {pn : List (Addr × Obj)} (hz : Zc cls d oe) (hf : ∃ vs, oe.data = .fields vs) : CallR (X.suite a ((a, oe) :: pn)) (.builtin "isinstance") (rIsX X.K a cls d) := by
  intro pins s σ H xs us Q I r h
  obtain ⟨C, c, cv, b, rfl, ec, T, ed, hcv, e, q⟩ := h
  subst ec
  cases r with
  | cons rx rr =>
    cases rr with
    | cons rt rr =>
      cases rr
      cases rx
      have ec := hcv _ rt
      subst ec
      obtain ⟨hget, _⟩ := I.pin (a, oe) (List.mem_append.mpr (.inl List.mem_cons_self))
      obtain ⟨vs, hv⟩ := hf
      have hcl : (PySem.W.clsIn X.K C).isSome = true := by
        obtain ⟨nm, q, N, bs, bm, sn, sub, ab, col, dd, k0, k1, k2, k3, k5, hC, hbm⟩ := T.oex.cls
        unfold PySem.W.clsIn
        rw [hC] <;> rfl
      have J : ∃ od, PySem.W.InstAt s.heap a oe C od := by
        cases d with
        | none => exact ⟨none, hget, hz.1, by unfold PySem.W.notCls; rw [hv] <;> rfl, by rw [hz.2]; trivial⟩
        | some dd =>
          obtain ⟨fs, ed⟩ := ed dd rfl
          obtain ⟨mA, hns, hr⟩ := (show ObjOk X.prog X.w H s.heap dd (.xd fs) from I.hok dd _ ed)
          obtain ⟨od, ho, hl⟩ := lookIn_ns hns
          exact ⟨some od, hget, hz.1, by unfold PySem.W.notCls; rw [hv] <;> rfl, by rw [hz.2]; exact ho⟩
      obtain ⟨od, J⟩ := J
      exact PySem.W.kia_one (PySem.W.kitx_exc hcl T.ga T.gg T.oex.exC T.cl T.cn T.ct T.cm) I.kIn J e (fun z => nomatch z) fun tk => ⟨.bl b, H, I.kept (t' := tk) fun _ _ z => z, rfl, q⟩
end Gy

namespace Gy
open PySem L2 PySem.Spec PyProof.Rows
open PySem.GyRX (ShowC)
def NoGuardC (A : Around) : Prop := A.guards = some [] ∧ A.handled = none
/-- a class whose __init__ stores one thing f: all that a call of it wants -/
structure Mk1 (P : Program) (w : World) (K : PySem.W.Frag) (mg : Str → Option Value) (base : Heap) (x : Str) (C : Addr) (f : Str) : Prop where
  g : mg x = some (.ref C)
  q : ExQ K C
  nf : PySem.W.findIn K (.ref C) f = some none
  ini : ∃ (fI : Addr) (fd : FuncData), PySem.W.findIn K (.ref C) "__init__" = some (some (.ref fI)) ∧ PySem.W.typeIn K (.ref fI) = some (.type "function") ∧ FnOk P w K mg base CX0 1 fI fd ["self", f] (spIni1 K C f) ∧ L2.Binds K fd ["self", f] []
structure Mk2 (P : Program) (w : World) (K : PySem.W.Frag) (mg : Str → Option Value) (base : Heap) (x : Str) (C : Addr) (f f' : Str) : Prop where
  g : mg x = some (.ref C)
  q : ExQ K C
  nf : PySem.W.findIn K (.ref C) f = some none
  ng : PySem.W.findIn K (.ref C) f' = some none
  ini : ∃ (fI : Addr) (fd : FuncData), PySem.W.findIn K (.ref C) "__init__" = some (some (.ref fI)) ∧ PySem.W.typeIn K (.ref fI) = some (.type "function") ∧ FnOk P w K mg base CX0 1 fI fd ["self", f, f'] (spIni2 K C f f') ∧ L2.Binds K fd ["self", f, f'] []
structure Mk0 (K : PySem.W.Frag) (mg : Str → Option Value) (x : Str) (C : Addr) : Prop where
  g : mg x = some (.ref C)
  q : ExQ K C
  x : ∃ bmB, ExcBaseFacts "ValueError" "ValueError.__new__" "ValueError.__init__" bmB ∧ PySem.W.excIn K C bmB "ValueError.__new__" = true
section
variable {X : Cx} {e : Expr} {es : List Expr} {ta : TA} {p pos : Pos} {x : Str} {C : Addr} {f g : Str}
theorem pe_mk1 (M : Mk1 X.prog X.w X.K X.mg X.base x C f) (hr : Room 2 X.A) (hg : Gl X x) (ha : PA X (e :: es) ta) (hdb : (x == ("__debug__" : Str)) = false := by decide)
    (he : starEach (e :: es) X.env = (false, eval e X.env) :: starEach es X.env := by rfl) (hpl : (backTo pos (starEach es X.env)).any (·.1) = false := by rfl) : PE X (.Call (.Name x p) (e :: es) [] pos) (tErr C (g1 f) ta) := by
  obtain ⟨fI, fd, h1, h2, h3, h4⟩ := M.ini
  exact pe_err1 M.q.oex h1 h2 h3 hr h4 hg M.g ha hdb he hpl
theorem pe_mk2 (M : Mk2 X.prog X.w X.K X.mg X.base x C f g) (hr : Room 2 X.A) (hg : Gl X x) (ha : PA X (e :: es) ta) (hdb : (x == ("__debug__" : Str)) = false := by decide)
    (he : starEach (e :: es) X.env = (false, eval e X.env) :: starEach es X.env := by rfl) (hpl : (backTo pos (starEach es X.env)).any (·.1) = false := by rfl) : PE X (.Call (.Name x p) (e :: es) [] pos) (tErr C (g2 f g) ta) := by
  obtain ⟨fI, fd, h1, h2, h3, h4⟩ := M.ini
  exact pe_err2 M.q.oex h1 h2 h3 hr h4 hg M.g ha hdb he hpl
theorem pe_mk0 (M : Mk0 X.K X.mg x C) (hg : Gl X x) (hdb : (x == ("__debug__" : Str)) = false := by decide) : PE X (.Call (.Name x p) [] [] pos) (tMkQ0 C) := by
  obtain ⟨bmB, h1, h2⟩ := M.x
  exact pe_mkq0 h1 h2 M.q.oex.kC hg M.g hdb
end
def xfc {K : PySem.W.Frag} {C : Addr} (T : ExQ K C) : XfC K C := ⟨T.ga, T.gg, T.oex.exC, T.hd⟩
def tAl (K : PySem.W.Frag) (t : TA) : TE := fun σ H Q => t σ H fun vs H1 => spAlike K vs H1 Q E0
def tRs (K : PySem.W.Frag) (H0 : Hp) (te : TE) (W : WX) : TS := fun _ σ H => te σ H fun x H1 => rExq K H0 x H1 fun cls d H' => W cls d σ H'
theorem ps_raiseQ {X : Cx} {K : PySem.W.Frag} {H0 : Hp} {W : WX} {e : Expr} {te : TE} {pos : Pos} (hc : X.calm = true) (tk : Takes X W) (hK : X.K = K) (hH : X.H_0 = H0) (hx : X.ex = []) (he : PE X e te) : PS X (.Raise (some e) none pos) (tRs K H0 te W) :=
  ps_raise hc tk (pmk_exq K H0 hK hH hx he)
def tIsX (K : PySem.W.Frag) (a : Addr) (cls : Value) (d : Option Addr) (c : V) : TE := tCB (rIsX K a cls d) (tCons (tVar 2) (tCons (tC c) tNil))
def tApp (K : PySem.W.Frag) (te : TE) : TS := tDrop (tBM K "list" rAppend (tVar 1) (tCons te tNil))
/-- behind a raise: what stood ahead of the making stands -/
theorem raised_same {H H2 : Hp} {e dd : Addr} {fs : List (Str × V)} (s : Same H H2) (he : H e = none) (hd : H dd = none) : Same H (upd (delH H2 e) dd (.xd fs)) := fun b o h => by
  have h1 : b ≠ e := ne_of_none h he
  have h2 : b ≠ dd := ne_of_none h hd
  rw [upd_ne h2, delH_ne h1]
  exact s _ _ h
theorem del_same' {H H2 : Hp} {e : Addr} (s : Same H H2) (he : H e = none) : Same H (delH H2 e) := fun b o h => by
  rw [delH_ne (ne_of_none h he)]
  exact s _ _ h
theorem same_new {H H1 : Hp} {p : Addr} {o : HO} (s : Same H H1) (hp : H1 p = none) : Same H (upd H1 p o) := fun b u h => by
  rw [upd_ne (ne_of_none (s _ _ h) hp)]
  exact s _ _ h
theorem same_put {H H1 : Hp} {p : Addr} {o : HO} (s : Same H H1) (hp : H p = none) : Same H (upd H1 p o) := fun b u h => by
  rw [upd_ne (ne_of_none h hp)]
  exact s _ _ h
end Gy

namespace Gy
open PySem L2 PySem.Spec PyProof.Rows
open PySem.GyRX (ShowC)
/-- what was new since H1, as it is in H2, stands in H' -/
def Keeps (H1 H2 H' : Hp) : Prop := ∀ x o, H1 x = none → H2 x = some o → H' x = some o
theorem Keeps.refl (H1 H2 : Hp) : Keeps H1 H2 H2 := fun _ _ _ h => h
/-- v is the datum d, all of it new since H1, as of H2 -/
def Own (K : PySem.W.Frag) (H1 H2 : Hp) (v : V) (d : D) : Prop := ∀ H', Keeps H1 H2 H' → Rp K H' v d
def OwnAll (K : PySem.W.Frag) (H1 H2 : Hp) (vs : List V) (ds : List D) : Prop := ∀ H', Keeps H1 H2 H' → RpAll K H' vs ds
theorem Keeps.later {H1 H2 H3 H' : Hp} (s : Same H2 H3) (k : Keeps H1 H3 H') : Keeps H1 H2 H' := fun x o n h => k x o n (s _ _ h)
theorem Keeps.sooner {H0 H1 H2 H' : Hp} (s : Same H0 H1) (k : Keeps H0 H2 H') : Keeps H1 H2 H' := fun x o n h => k x o (by
  cases e : H0 x with
  | none => rfl
  | some u =>
    rw [s _ _ e] at n
    cases n) h
theorem Own.later {K : PySem.W.Frag} {H1 H2 H3 : Hp} {v : V} {d : D} (h : Own K H1 H2 v d) (s : Same H2 H3) : Own K H1 H3 v d := fun H' k => h H' (k.later s)
theorem Own.sooner {K : PySem.W.Frag} {H0 H1 H2 : Hp} {v : V} {d : D} (h : Own K H1 H2 v d) (s : Same H0 H1) : Own K H0 H2 v d := fun H' k => h H' (k.sooner s)
theorem OwnAll.later {K : PySem.W.Frag} {H1 H2 H3 : Hp} {v : List V} {d : List D} (h : OwnAll K H1 H2 v d) (s : Same H2 H3) : OwnAll K H1 H3 v d := fun H' k => h H' (k.later s)
theorem OwnAll.sooner {K : PySem.W.Frag} {H0 H1 H2 : Hp} {v : List V} {d : List D} (h : OwnAll K H1 H2 v d) (s : Same H0 H1) : OwnAll K H0 H2 v d := fun H' k => h H' (k.sooner s)
theorem OwnAll.cons {K : PySem.W.Frag} {H1 H2 : Hp} {v : V} {d : D} {vs : List V} {ds : List D} (h : Own K H1 H2 v d) (hs : OwnAll K H1 H2 vs ds) : OwnAll K H1 H2 (v :: vs) (d :: ds) := fun H' k => .cons (h H' k) (hs H' k)
theorem OwnAll.nil {K : PySem.W.Frag} {H1 H2 : Hp} : OwnAll K H1 H2 [] [] := fun _ _ => .nil
theorem OwnAll.len {K : PySem.W.Frag} {H1 H2 : Hp} {vs : List V} {ds : List D} (h : OwnAll K H1 H2 vs ds) : vs.length = ds.length := (h H2 (Keeps.refl _ _)).len
theorem RpAll.append {K : PySem.W.Frag} {H : Hp} : ∀ {vs ws : List V} {ds es : List D}, RpAll K H vs ds → RpAll K H ws es → RpAll K H (vs ++ ws) (ds ++ es)
  | _, _, _, _, .nil, h => h
  | _, _, _, _, .cons r rs, h => .cons r (RpAll.append rs h)
theorem OwnAll.append {K : PySem.W.Frag} {H1 H2 : Hp} {vs ws : List V} {ds es : List D} (h : OwnAll K H1 H2 vs ds) (h' : OwnAll K H1 H2 ws es) : OwnAll K H1 H2 (vs ++ ws) (ds ++ es) := fun H' k => (h H' k).append (h' H' k)
theorem Own.lst {K : PySem.W.Frag} {H1 H2 : Hp} {p : Addr} {vs : List V} {ds : List D} (h : OwnAll K H1 H2 vs ds) (np : H1 p = none) (np2 : H2 p = none) : Own K H1 (upd H2 p (.lst vs)) (.ref p) (.lst ds) := fun H' k =>
  .lst (k p _ np upd_same) (h H' (k.later fun b o e => by rw [upd_ne (ne_of_none e np2)]; exact e))
theorem Own.tup {K : PySem.W.Frag} {H1 H2 : Hp} {p : Addr} {vs : List V} {ds : List D} (h : OwnAll K H1 H2 vs ds) (np : H1 p = none) (np2 : H2 p = none) : Own K H1 (upd H2 p (.tup vs)) (.ref p) (.tup ds) := fun H' k =>
  .tup (k p _ np upd_same) (h H' (k.later fun b o e => by rw [upd_ne (ne_of_none e np2)]; exact e))
theorem Own.dic0 {K : PySem.W.Frag} {H : Hp} {p : Addr} (np : H p = none) : Own K H (upd H p (.dK [])) (.ref p) (.dic [] []) := fun H' k =>
  .dic (ks := []) (xs := []) (k p _ np upd_same) rfl .nil
theorem Own.dic1 {K : PySem.W.Frag} {H H2 : Hp} {p : Addr} {x : Str} {v : V} {d : D} (h : Own K (upd H p (.dK [])) H2 v d) (np : H p = none) : Own K H (upd H2 p (.dK (mergeK [] [(Sum.inr x, v)]))) (.ref p) (.dic [x] [d]) := fun H' k =>
  .dic (ks := [x]) (xs := [v]) (k p _ np upd_same) rfl (.cons (h H' fun y o n e => by
    have ne : y ≠ p := fun z => by rw [z, upd_same] at n; cases n
    rw [upd_ne ne] at n
    exact k y o n (by rw [upd_ne ne]; exact e)) .nil)
/-- members of what is own -/
theorem OwnAll.mem {K : PySem.W.Frag} {H1 H2 : Hp} {v : V} : ∀ {vs : List V} {ds : List D}, OwnAll K H1 H2 vs ds → v ∈ vs → ∃ d ∈ ds, Own K H1 H2 v d
  | [], _, _, m => absurd m List.not_mem_nil
  | x :: vs, ds, h, m => by
    cases ds with
    | nil =>
      have := h.len
      simp at this
    | cons d ds =>
      rcases List.mem_cons.mp m with e | m
      · refine ⟨d, List.mem_cons_self, fun H' k => ?_⟩
        have q := h H' k
        cases q with
        | cons r _ => rw [e]; exact r
      · obtain ⟨d', hd, ho⟩ := OwnAll.mem (vs := vs) (ds := ds) (fun H' k => by
          have q := h H' k
          cases q with
          | cons _ rs => exact rs) m
        exact ⟨d', List.mem_cons_of_mem _ hd, ho⟩
/-! ### written data -/
mutual
inductive Lit : Expr → D → Prop
  | non {j : Nat} {pos : Pos} : Lit (.Constant .none j pos) .non
  | bl {b : Bool} {j : Nat} {pos : Pos} : Lit (.Constant (.bool b) j pos) (.bl b)
  | int {i : Int} {j : Nat} {pos : Pos} : Lit (.Constant (.int i) j pos) (.int i)
  | str {x : Str} {j : Nat} {pos : Pos} : Lit (.Constant (.str x) j pos) (.str x)
  | neg {i : Int} {j : Nat} {pos pos' : Pos} : Lit (.UnaryOp .USub (.Constant (.int i) j pos) pos') (.int (-i))
  | pow {a b : Int} {j k : Nat} {p1 p2 pos : Pos} : CPow a b → Lit (.BinOp (.Constant (.int a) j p1) .Pow (.Constant (.int b) k p2) pos) (.int (a ^ b.toNat))
  | lst {es : List Expr} {ds : List D} {pos : Pos} : Lits es ds → ds.length ≤ 1000 → Lit (.List es pos) (.lst ds)
  | tup {es : List Expr} {ds : List D} {k : Nat} {pos : Pos} : Lits es ds → ds.length ≤ 1000 → Lit (.Tuple es k pos) (.tup ds)
  | dic0 {pos : Pos} : Lit (.Dict [] [] pos) (.dic [] [])
  | dic1 {x : Str} {e : Expr} {d : D} {j : Nat} {p pos : Pos} : Lit e d → Lit (.Dict [some (.Constant (.str x) j p)] [e] pos) (.dic [x] [d])
inductive Lits : List Expr → List D → Prop
  | nil : Lits [] []
  | cons {e : Expr} {es : List Expr} {d : D} {ds : List D} : Lit e d → Lits es ds → Lits (e :: es) (d :: ds)
end
def tLit (K : PySem.W.Frag) (d : D) : TE := fun _ H Q => ∀ v H', Same H H' → Own K H H' v d → Q v H'
def tLits (K : PySem.W.Frag) (ds : List D) : TA := fun _ H Q => ∀ vs H', Same H H' → OwnAll K H H' vs ds → Q vs H'
theorem PA.imp {X : Cx} {es : List Expr} {t t' : TA} (h : PA X es t) (k : ∀ σ H Q, t' σ H Q → t σ H Q) : PA X es t' := ⟨fun pos pins s σ H Q I q => h.run pos pins s σ H Q I (k _ _ _ q)⟩
theorem lit_const {X : Cx} {e : Expr} {v : V} {d : D} (h : PE X e (tC v)) (r : ∀ H, Rp X.K H v d) : PE X e (tLit X.K d) := PE.imp h fun σ H Q q => q v H (Same.refl H) fun H' _ => r H'
mutual
theorem pe_lit {X : Cx} (hs : ∀ (e : Expr) (es : List Expr) (d : D), Lit e d → starEach (e :: es) X.env = (false, eval e X.env) :: starEach es X.env) : ∀ {e : Expr} {d : D}, Lit e d → PE X e (tLit X.K d)
  | _, _, .non => lit_const pe_non fun _ => .non
  | _, _, .bl => lit_const pe_bl fun _ => .bl _
  | _, _, .int => lit_const pe_int fun _ => .int _
  | _, _, .str => lit_const pe_str fun _ => .str _
  | _, _, .neg => PE.imp (pe_un un_neg pe_int) fun σ H Q q => ⟨_, rfl, q _ H (Same.refl H) fun H' _ => .int _⟩
  | _, _, .pow h => PE.imp (pe_op op_pow pe_int pe_int) fun σ H Q q => ⟨_, _, rfl, rfl, h, q _ H (Same.refl H) fun H' _ => .int _⟩
  | _, _, .lst h hl => PE.imp (pe_lst (pa_lit hs h)) fun σ H Q q vs H' s o => ⟨by rw [o.len, sizeLine_eq]; omega, fun p np => q _ _ (same_new s np) (Own.lst o (s.free np) np)⟩
  | _, _, .tup h hl => PE.imp (pe_tup (pa_lit hs h)) fun σ H Q q vs H' s o => ⟨by rw [o.len, sizeLine_eq]; omega, fun p np => q _ _ (same_new s np) (Own.tup o (s.free np) np)⟩
  | _, _, .dic0 => PE.imp pe_dnewK fun σ H Q q p np => q _ _ (same_new (Same.refl H) np) (Own.dic0 np)
  | _, _, .dic1 h => PE.imp (pe_disp (pps_cons pe_str (pe_lit hs h) pps_nil) (by rfl) (by rfl) (fun z => by cases z) (by show 1 ≤ 15; decide)) fun σ H Q q p np v H2 s2 o2 => by
    have e2 := s2 p _ upd_same
    exact ⟨e2, [(Sum.inr _, v)], rfl, by show 1 ≤ 15; decide, q _ _ (same_put ((same_new (Same.refl H) np).trans s2) np) (Own.dic1 o2 np)⟩
theorem pa_lit {X : Cx} (hs : ∀ (e : Expr) (es : List Expr) (d : D), Lit e d → starEach (e :: es) X.env = (false, eval e X.env) :: starEach es X.env) : ∀ {es : List Expr} {ds : List D}, Lits es ds → PA X es (tLits X.K ds)
  | _, _, .nil => PA.imp pa_nil fun σ H Q q => q _ H (Same.refl H) OwnAll.nil
  | _, _, .cons h t => PA.imp (pa_cons (pe_lit hs h) (pa_lit hs t) (hs _ _ _ h)) fun σ H Q q v H1 s1 o1 vs H2 s2 o2 => q _ _ (s1.trans s2) (OwnAll.cons (o1.later s2) (o2.sooner s1))
end
theorem lit_star {X : Cx} : ∀ (e : Expr) (es : List Expr) (d : D), Lit e d → starEach (e :: es) X.env = (false, eval e X.env) :: starEach es X.env := fun e es d h => by
  cases h <;> rfl
end Gy

namespace Gy
open PySem L2 PySem.Spec PyProof.Rows
open PySem.GyRX (ShowC)
theorem Own.lst_inv {K : PySem.W.Frag} {H H' : Hp} {v : V} {ds : List D} (h : Own K H H' v (.lst ds)) : ∃ a xs, v = .ref a ∧ H a = none ∧ H' a = some (.lst xs) ∧ OwnAll K H H' xs ds := by
  have h0 := h (fun x => match H x with | none => H' x | some _ => none) (fun x o n e => by simp only [n]; exact e)
  cases h0 with
  | @lst a xs _ e r =>
    have na : H a = none := by
      cases q : H a with
      | none => rfl
      | some u => simp only [q] at e; cases e
    simp only [na] at e
    refine ⟨a, xs, rfl, na, e, fun H'' k => ?_⟩
    have e2 := k a _ na e
    have r2 := h H'' k
    cases r2 with
    | lst e3 r3 =>
      rw [e2] at e3
      cases e3
      exact r3
/-! ### the text's own data -/
def bodyAt (s : Stmt) (i : Nat) : Stmt := (defBody s).getD i (.Pass ⟨0, 0, 0, 0⟩)
def valOf : Stmt → Expr
  | .Assign _ v _ => v
  | .Return (some v) _ => v
  | _ => .Constant .none 0 ⟨0, 0, 0, 0⟩
def rhsOf : Expr → Expr
  | .BinOp _ _ r _ => r
  | e => e
def ts (s : Str) : D := .str s
def odd1 : List D := [.non, .bl true, .bl false, .int 0, .int 1, .int 2, .int 9, .int (-1), .int 10, .int 13, .int (10 ^ 39), .str "a", .str "p", .str "row", .str "kind", .str "", .str "A", .str "abcdefghi", .str "a b"]
def odd2 : List D := [.tup [], .lst [], .dic [] [], .tup [.str "a"], .lst [.str "a"], .tup [.non], .tup [.str "a", .int 0], .tup [.str "p", .int 0], .tup [.str "p", .bl true], .tup [.str "p", .int (-1)], .dic ["a"] [.int 0], .tup [.tup []]]
def odd3 : List D := [.tup [.str "row", .str "a", .int 1, .int 9], .tup [.str "kind", .str "p", .int 1, .int 1, .int 9], .tup [.str "row", .str "a", .int 5, .int 9], .tup [.str "row", .str "a", .int 1, .int 10], .lst [.lst [.str "a"]]]
def odd4 : List D := [.tup [.str "kind", .str "p", .int 0, .int 1, .int 9], .tup [.str "kind", .str "p", .int 10, .int 1, .int 9], .tup [.str "row", .str "a", .int 1, .int 1, .int 9], .lst [.str "row", .str "a", .int 1, .int 9]]
def odd5 : List D := [.tup [.str "row", .str "a", .bl true, .int 9], .tup [.str "kind", .str "a", .int 1, .int 9]]
local macro_rules | `(tactic| walk_at "lit") => `(tactic| (repeat' (first
  | exact Lits.nil | refine Lits.cons ?_ ?_ | exact Lit.non | exact Lit.bl | exact Lit.int | exact Lit.str | exact Lit.neg | exact Lit.pow (by show (0 : Int) ≤ 39 ∧ (39 : Int) ≤ 1000000 ∧ (10 : Int).natAbs < 2 ^ 64; decide) | exact Lit.dic0 | refine Lit.dic1 ?_ | refine Lit.lst ?_ ?_ | refine Lit.tup ?_ ?_ | exact Nat.le_of_ble_eq_true rfl)))
def odds : List D := (((odd1 ++ odd2) ++ odd3) ++ odd4) ++ odd5
/-- few and short -/
def D.top : D → Bool
  | .exc _ _ => false
  | _ => true
def D.few (d : D) : Bool := (d.ok && d.top) && (decide (d.shown.length ≤ 20000) && decide (d.depth ≤ 10))
theorem odds_few : odds.all D.few = true := by decide +kernel
theorem odds_len : odds.length = 42 := by decide +kernel
def spOdd (K : PySem.W.Frag) : Sp := fun vs H Q _ => ∃ b c, vs = [.ref b] ∧ BagC c H b ∧ ∀ (v : V) (H' : Hp), Ext b H H' → BagC c H' b → (∃ d, Own K H H' v d ∧ d.few = true) → Q v H'
theorem ext_same {b : Addr} {H H' : Hp} (s : Same H H') : Ext b H H' := fun a o _ h => s a o h
theorem BagC.same {b c : Addr} {H H' : Hp} (h : BagC c H b) (s : Same H H') : BagC c H' b := by
  obtain ⟨x0, x1, x2, ns, h⟩ := h
  exact ⟨x0, x1, x2, ns, s _ _ h.hb, s _ _ h.hc, h.p0, h.p1, h.q1, h.p2, h.pc, h.lc⟩
theorem Own.ext {K : PySem.W.Frag} {b : Addr} {H1 H2 H3 : Hp} {v : V} {d : D} {o : HO} (h : Own K H1 H2 v d) (hb : H1 b = some o) (s : Ext b H2 H3) : Own K H1 H3 v d := fun H' k => h H' fun x u n e => k x u n (s x u (fun z => by rw [z, hb] at n; cases n) e)
/-- a list of this call's own, with what it holds -/
def Acc (K : PySem.W.Frag) (H H1 : Hp) (v : V) (ds : List D) : Prop := Same H H1 ∧ ∃ a xs, v = .ref a ∧ H a = none ∧ H1 a = some (.lst xs) ∧ OwnAll K H H1 xs ds
theorem Acc.cat {K : PySem.W.Frag} {H H1 H2 : Hp} {v u : V} {ds es : List D} {Q : V → Hp → Prop} (h : Acc K H H1 v ds) (hl : ds.length + es.length ≤ 1000) (s : Same H1 H2) (o : Own K H1 H2 u (.lst es))
    (k : ∀ v' H3, Acc K H H3 v' (ds ++ es) → Q v' H3) : rCat v u H2 Q := by
  obtain ⟨s0, a, xs, rfl, na, ea, w⟩ := h
  obtain ⟨b, zs, rfl, nb, eb, wb⟩ := o.lst_inv
  refine ⟨a, b, xs, zs, rfl, rfl, s _ _ ea, eb, by rw [w.len, wb.len, sizeLine_eq]; omega, fun p np => k _ _ ?_⟩
  have st := s0.trans s
  have nu : Same H2 (upd H2 p (.lst (xs ++ zs))) := same_new (Same.refl H2) np
  exact ⟨st.trans nu, p, _, rfl, st.free np, upd_same, ((w.later s).append (wb.sooner s0)).later nu⟩
section
variable {P : Program} {w : World} {K : PySem.W.Frag} {mg : Str → Option Value} {base : Heap}
end
end Gy

/-! Sets of nested tuples of texts and whole numbers. -/
namespace Ns
open PySem PySem.Spec PyProof.Rows L2
section
variable {P : Program} {w : World}
/-- such a value is no class statement -/
def NoCls (P : Program) (w : World) (n : Nat) (s : Shared) (v : Value) : Prop := ∀ (A : Around) (E : Value → Shared → Prop) (Q : Bool → Shared → Prop), Q false s → wpAny (model P w) A (ofAClassStatement n v) Q E s
/-- it can be asked whether its hash goes by value -/
def ByVal (P : Program) (w : World) (n : Nat) (s : Shared) (v : Value) : Prop := ∀ (A : Around) (E : Value → Shared → Prop) (Q : Bool → Shared → Prop), (∀ b, Q b s) → wpAny (model P w) A (hashByValue n v) Q E s
theorem noCls_tup {n m : Nat} {s : Shared} {a : Addr} {o : Obj} {vs : Array Value} (ho : s.heap.get? a = some o) (hc : o.cls = .type "tuple") (hd : o.data = .seq vs m) (hv : ∀ v ∈ vs.toList, NoCls P w n s v) : NoCls P w (n + 1) s (.ref a) := fun A E Q q => by
  have ty : s.TypeIs (.ref a) "tuple" := ⟨o, ho, hc⟩
  unfold ofAClassStatement
  refine wpAny_bind (wpAny_typeOf ty ?_)
  dsimp only
  have e : (("tuple" : String) == "tuple") = true := by decide
  simp only [e, if_true, Bool.not_true, Bool.false_eq_true, if_false]
  try refine wpAny_bind (wpAny_pure ?_)
  try simp only [Bool.not_true, Bool.false_eq_true, if_false]
  show wpAny _ _ (seqItems? (.ref a) >>= _) _ _ s
  refine wpAny_bind (wpAny_seqItems ho hd ?_)
  dsimp only
  refine wpAny_bind ?_
  show wpAny _ _ (forIn vs _ _) _ _ s
  rw [← Array.forIn_toList]
  refine wpAny_forIn_list _ (fun left r s1 => (r.1 = none ∧ s1 = s) ∧ ∀ v ∈ left, NoCls P w n s v) _ (fun v left r s1 z => ?_) (fun r s1 z => ?_) _ _ ⟨⟨rfl, rfl⟩, hv⟩
  · obtain ⟨⟨hr, rfl⟩, all⟩ := z
    refine wpAny_bind (all v List.mem_cons_self _ _ _ ?_)
    simp only [Bool.false_eq_true, if_false]
    exact wpAny_pure ⟨⟨rfl, rfl⟩, fun u m => all u (List.mem_cons_of_mem _ m)⟩
  · obtain ⟨⟨hr, rfl⟩, _⟩ := z
    obtain ⟨r1, r2⟩ := r
    simp only at hr
    subst hr
    exact wpAny_pure q
theorem byVal_tup {n m : Nat} {s : Shared} {a : Addr} {o : Obj} {vs : Array Value} (ho : s.heap.get? a = some o) (hc : o.cls = .type "tuple") (hd : o.data = .seq vs m) (hv : ∀ v ∈ vs.toList, ByVal P w n s v) : ByVal P w (n + 1) s (.ref a) := fun A E Q q => by
  have ty : s.TypeIs (.ref a) "tuple" := ⟨o, ho, hc⟩
  unfold hashByValue
  refine wpAny_bind (wpAny_specialOf ty F.slot_tuple_hash.lookup ?_)
  show wpAny _ _ (seqItems? (.ref a) >>= _) _ _ s
  refine wpAny_bind (wpAny_seqItems ho hd ?_)
  refine wpAny_bind ?_
  show wpAny _ _ (forIn vs _ _) _ _ s
  rw [← Array.forIn_toList]
  refine wpAny_forIn_list _ (fun left r s1 => (r.1 = none ∧ s1 = s) ∧ ∀ v ∈ left, ByVal P w n s v) _ (fun v left r s1 z => ?_) (fun r s1 z => ?_) _ _ ⟨⟨rfl, rfl⟩, hv⟩
  · obtain ⟨⟨hr, rfl⟩, all⟩ := z
    refine wpAny_bind (all v List.mem_cons_self _ _ _ fun b => ?_)
    cases b with
    | true =>
      simp only [Bool.not_true, Bool.false_eq_true, if_false]
      exact wpAny_pure ⟨⟨rfl, rfl⟩, fun u m => all u (List.mem_cons_of_mem _ m)⟩
    | false =>
      simp only [Bool.not_false, if_true]
      exact wpAny_pure (wpAny_pure (q false))
  · obtain ⟨⟨hr, rfl⟩, _⟩ := z
    obtain ⟨r1, r2⟩ := r
    simp only at hr
    subst hr
    exact wpAny_pure (q true)
mutual
theorem noCls_key : ∀ (k : NestedKey) (v : Value) (n : Nat) (s : Shared), NestedIs s.heap k v → k.depth ≤ n → NoCls P w n s v
  | .none, _, n, s, x, _ => by cases x; intro A E Q q; cases n <;> exact wpAny_pure q
  | .num i, _, n, s, x, _ => by cases x <;> (intro A E Q q; cases n <;> exact wpAny_pure q)
  | .text y, _, n, s, x, _ => by cases x; intro A E Q q; cases n <;> exact wpAny_pure q
  | .tup ks, _, n, s, x, hn => by
    cases x with
    | tup hg hc hd hk =>
      simp only [NestedKey.depth] at hn
      cases n with
      | zero => omega
      | succ n => exact noCls_tup hg hc hd (noCls_keys ks _ n s hk (by omega))
theorem noCls_keys : ∀ (ks : List NestedKey) (vs : List Value) (n : Nat) (s : Shared), NestedAll s.heap ks vs → NestedKey.depthAll ks ≤ n → ∀ v ∈ vs, NoCls P w n s v
  | [], _, n, s, x, _, v, hv => by cases x; cases hv
  | k :: ks, _, n, s, x, hn, v, hv => by
    cases x with
    | cons x1 x2 =>
      simp only [NestedKey.depthAll] at hn
      rcases List.mem_cons.mp hv with e | hv
      · rw [e]; exact noCls_key k _ n s x1 (by omega)
      · exact noCls_keys ks _ n s x2 (by omega) v hv
end
mutual
theorem byVal_key : ∀ (k : NestedKey) (v : Value) (n : Nat) (s : Shared), NestedIs s.heap k v → k.depth ≤ n → ByVal P w n s v
  | .none, _, n, s, x, _ => by cases x; intro A E Q q; cases n <;> exact wpAny_pure (q true)
  | .num i, _, n, s, x, _ => by cases x <;> (intro A E Q q; cases n <;> exact wpAny_pure (q true))
  | .text y, _, n, s, x, _ => by cases x; intro A E Q q; cases n <;> exact wpAny_pure (q false)
  | .tup ks, _, n, s, x, hn => by
    cases x with
    | tup hg hc hd hk =>
      simp only [NestedKey.depth] at hn
      cases n with
      | zero => omega
      | succ n => exact byVal_tup hg hc hd (byVal_keys ks _ n s hk (by omega))
theorem byVal_keys : ∀ (ks : List NestedKey) (vs : List Value) (n : Nat) (s : Shared), NestedAll s.heap ks vs → NestedKey.depthAll ks ≤ n → ∀ v ∈ vs, ByVal P w n s v
  | [], _, n, s, x, _, v, hv => by cases x; cases hv
  | k :: ks, _, n, s, x, hn, v, hv => by
    cases x with
    | cons x1 x2 =>
      simp only [NestedKey.depthAll] at hn
      rcases List.mem_cons.mp hv with e | hv
      · rw [e]; exact byVal_key k _ n s x1 (by omega)
      · exact byVal_keys ks _ n s x2 (by omega) v hv
end
end
/-- the tuple at b is the key k -/
def Key (h : Heap) (k : NestedKey) (b : Addr) : Prop := NestedIs h k (.ref b) ∧ k.depth ≤ 8
theorem Key.at {h h' : Heap} {k : NestedKey} {b : Addr} (x : Key h k b) (s : ∀ c o vs n, h.get? c = some o → o.data = .seq vs n → h'.get? c = some o) : Key h' k b := ⟨NestedIs.at s _ _ x.1, x.2⟩
/-- what isn't a set stays -/
theorem Key.but {h h' : Heap} {k : NestedKey} {a b : Addr} {o : Obj} {es : Array (Int × Value)} {ep : Nat} {t : SetTable} (x : Key h k b) (ho : h.get? a = some o) (hd : o.data = .set es ep t) (hs : Heap.SameBut a h h') : Key h' k b :=
  x.at fun c u vs n hc hu => (hs.2 c (fun z => by
    rw [z, ho] at hc
    cases hc
    rw [hd] at hu
    cases hu)).trans hc
abbrev hsh (w : World) (k : NestedKey) : Int := k.hash w
section
variable {P : Program} {w : World} {A : Around} {E : Value → Shared → Prop} {s : Shared}
/-- a search among keys shows nothing -/
theorem seen_keys {k : NestedKey} {b : Addr} {Q : Bool → Shared → Prop} (hk : Key s.heap k b) {ys : List Value} (hy : ∀ y ∈ ys, ∃ k' c, y = Value.ref c ∧ Key s.heap k' c) (q : Q false s) : wpAny (model P w) A (searchCouldBeSeen (.ref b) ys) Q E s := by
  unfold searchCouldBeSeen
  refine wpAny_bind ?_
  refine wpAny_forIn_list _ (fun left r s1 => (r.1 = none ∧ s1 = s) ∧ ∀ y ∈ left, ∃ k' c, y = Value.ref c ∧ Key s.heap k' c) _ (fun v left r s1 z => ?_) (fun r s1 z => ?_) _ _ ⟨⟨rfl, rfl⟩, hy⟩
  · obtain ⟨⟨hr, rfl⟩, all⟩ := z
    obtain ⟨k', c, rfl, hc⟩ := all v List.mem_cons_self
    have more : ∀ y ∈ left, ∃ k' c, y = Value.ref c ∧ Key s1.heap k' c := fun u m => all u (List.mem_cons_of_mem _ m)
    dsimp only
    by_cases hv : (b == c || (carriedByValue (.ref b) && carriedByValue (.ref c))) = true
    · exact wp_if_pos hv (wpAny_pure ⟨⟨rfl, rfl⟩, more⟩)
    · refine wp_if_neg hv ?_
      refine wpAny_bind (quiet_key k _ 8 s1 hk.1 hk.2 _ _ _ ?_)
      simp only [Bool.not_true, Bool.false_eq_true, if_false]
      refine wpAny_bind (quiet_key k' _ 8 s1 hc.1 hc.2 _ _ _ ?_)
      simp only [Bool.not_true, Bool.false_eq_true, if_false]
      refine wpAny_bind (noCls_key k _ 8 s1 hk.1 hk.2 _ _ _ ?_)
      simp only [Bool.false_eq_true, if_false]
      refine wpAny_bind (noCls_key k' _ 8 s1 hc.1 hc.2 _ _ _ ?_)
      simp only [Bool.false_eq_true, if_false]
      exact wpAny_pure ⟨⟨rfl, rfl⟩, more⟩
  · obtain ⟨⟨hr, rfl⟩, _⟩ := z
    obtain ⟨r1, r2⟩ := r
    simp only at hr
    subst hr
    exact wpAny_pure q
end
end Ns

namespace Ns
open PySem PySem.Spec PyProof.Rows L2
/-- what a set's table holds for keys at addresses -/
def ent (w : World) (p : Addr × NestedKey) : Int × Value := (hsh w p.2, Value.ref p.1)
structure NSet (w : World) (h : Heap) (a : Addr) (L : List (Addr × NestedKey)) (es : Array (Int × Value)) (ep : Nat) (t : SetTable) : Prop where
  obj : ∃ o, h.get? a = some o ∧ o.ExactSet ∧ o.data = .set es ep t
  ents : es.toList = L.map (ent w)
  tab : TabOk t (L.map fun p => hsh w p.2)
  once : (L.map (·.2)).Nodup
  keys : ∀ p ∈ L, Key h p.2 p.1
  led : w.params.followText "set-order" = true ∨ t.led = true
  room : L.length * 5 < t.mask * 3
  few : L.length < 64
section
variable {P : Program} {w : World} {A : Around} {E : Value → Shared → Prop} {s : Shared} {h : Heap} {a : Addr} {L : List (Addr × NestedKey)} {es : Array (Int × Value)} {ep : Nat} {t : SetTable}
theorem NSet.size (R : NSet w h a L es ep t) : es.size = L.length := by
  have e := congrArg List.length R.ents
  rwa [Array.length_toList, List.length_map] at e
theorem NSet.place (R : NSet w h a L es ep t) : t.place.size = L.length := by
  have e := R.tab.sz
  rwa [List.length_map] at e
theorem fits_of {t : SetTable} {n : Nat} (hd : t.dummies = #[]) (h1 : t.place.size = n) (h2 : n ≤ t.mask) : t.fits n = true := by
  unfold SetTable.fits SetTable.fill
  rw [hd, Bool.and_eq_true, beq_iff_eq, decide_eq_true_eq]
  exact ⟨h1, by show t.place.size + 0 ≤ t.mask; omega⟩
theorem NSet.fits (R : NSet w h a L es ep t) : t.fits es.size = true := by
  have h1 := R.size
  have h2 := R.place
  have h3 := R.room
  exact fits_of R.tab.dm (by omega) (by omega)
theorem NSet.at (R : NSet w h a L es ep t) {i : Nat} {p : Addr × NestedKey} (e : L[i]? = some p) : es[i]? = some (ent w p) := by
  rw [← Array.getElem?_toList, R.ents, List.getElem?_map, e]
  rfl
theorem NSet.stays (R : NSet w h a L es ep t) : ¬ t.gaveWay = true := by
  unfold SetTable.gaveWay
  rw [mask_odd R.tab.mok]
  decide
/-- the first step of a way -/
abbrev step0 (m : Nat) (h : Int) : SetTable.Probe := runAt m (SetTable.bits h % (m + 1)) (SetTable.bits h)
theorem no_dummy (m : Nat) : ∀ (n : Nat) (p : SetTable.Probe), p.dummy = none → (nth m p n).dummy = none
  | 0, p, e => e
  | n + 1, p, e => no_dummy m n (adv m p) (by unfold adv; split <;> exact e)
/-- the search on its way, from step c on; K: the first empty slot -/
theorem seek (R : NSet w s.heap a L es ep t) {x : Addr} {k : NestedKey} (hx : Key s.heap k x) (hu : A.units + 8 < cLine) {K : Nat} (lim : K < 10 * SetTable.turns t.mask)
    (free : way t.mask (hsh w k) K ∉ t.place.toList) (full : ∀ c, c < K → way t.mask (hsh w k) c ∈ t.place.toList) {Q : SetFound → Shared → Prop}
    (there : k ∈ L.map (·.2) → Q (.there none) s) (none' : k ∉ L.map (·.2) → Q (.free (way t.mask (hsh w k) K) false) s) :
    ∀ (f c : Nat) (stand : Option SetTable.Probe), stand.getD (t.probeStart (hsh w k)) = nth t.mask (step0 t.mask (hsh w k)) c → c ≤ K → K - c < f →
      (∀ (i : Nat) p, L[i]? = some p → p.2 = k → ∃ d, c ≤ d ∧ d < K ∧ t.place.toList[i]? = some (way t.mask (hsh w k) d)) →
      wpAny (model P w) A (setSearchFrom a (.ref x) (hsh w k) true f stand) Q E s := by
  obtain ⟨o, ho, hex, hd⟩ := R.obj
  intro f
  induction f with
  | zero => exact fun c st _ _ hf => absurd hf (Nat.not_lt_zero _)
  | succ f ih =>
    intro c stand hst hc hf ahead
    rw [setSearchFrom_succ]
    refine wpAny_bind (wpAny_setState_of ho hd R.fits ?_)
    dsimp only
    refine wp_if_neg R.stays ?_
    try refine wpAny_bind (wpAny_pure ?_)
    generalize hp0 : nth t.mask (step0 t.mask (hsh w k)) c = p0 at hst
    have go : ∀ q, nth t.mask p0 q = nth t.mask (step0 t.mask (hsh w k)) (c + q) := fun q => by rw [← hp0, ← nth_add]
    have goj : ∀ q, (nth t.mask p0 q).j = way t.mask (hsh w k) (c + q) := fun q => congrArg SetTable.Probe.j (go q)
    have nd : p0.dummy = none := by rw [← hp0]; exact no_dummy _ _ _ rfl
    have toK : c + (K - c) = K := by omega
    have hashes : ∀ (i : Nat) p, L[i]? = some p → (fun i => (es[i]?.map (·.1)).getD 0) i = hsh w p.2 := fun i p hp => by
      show (es[i]?.map (·.1)).getD 0 = _
      rw [R.at hp]
      rfl
    have spec := go_spec t R.tab.ris R.tab.dm (fun i => (es[i]?.map (·.1)).getD 0) (hsh w k) (10 * SetTable.turns t.mask) (K - c) p0 nd (by omega)
      (fun q hq => by rw [goj]; exact full _ (by omega)) (by rw [goj, toK]; exact free)
    rcases spec with ⟨q, i, hq, hi, hh, before, hpr⟩ | ⟨before, hpr⟩
    · have hpr' : t.probe (fun i => (es[i]?.map (·.1)).getD 0) (hsh w k) (stand.getD (t.probeStart (hsh w k))) = some (.candidate (way t.mask (hsh w k) (c + q)) i (nth t.mask (step0 t.mask (hsh w k)) (c + (q + 1)))) := by
        rw [hst, ← goj, ← go]
        exact hpr
      rw [hpr']
      dsimp only
      rw [goj] at hi
      have il : i < L.length := by
        have h1 := (List.getElem?_eq_some_iff.mp hi).1
        rw [Array.length_toList, R.place] at h1
        exact h1
      obtain ⟨p, hp⟩ : ∃ p, L[i]? = some p := ⟨_, List.getElem?_eq_getElem il⟩
      have mem := List.mem_of_getElem? hp
      have kp := R.keys p mem
      have live : t.slot (way t.mask (hsh w k) (c + q)) = .live i := slot_live R.tab.ris hi
      have rest : wpAny (model P w) A (searchRest a (.ref x) (hsh w k) true f es t (way t.mask (hsh w k) (c + q)) i (nth t.mask (step0 t.mask (hsh w k)) (c + (q + 1)))) Q E s := by
        unfold searchRest
        rw [R.at hp]
        unfold ent
        dsimp only
        refine wpAny_bind (wpAny_holding ((nestedKind P w).eqBool (x := p.2) (y := k) hu kp hx ?_))
        refine wpAny_bind (wpAny_setState_of ho hd R.fits ?_)
        dsimp only
        by_cases same : p.2 = k
        · exact wp_if_pos (by simp [same]) (wpAny_pure (there (List.mem_map.mpr ⟨p, mem, same⟩)))
        · refine wp_if_neg (by simp [same]) ?_
          try refine wpAny_bind (wpAny_pure ?_)
          rw [sameMem]
          dsimp only
          simp only [if_true, live, R.at hp, ent]
          refine wpAny_bind (wpAny_isSame_ref_self (wpAny_bind (wpAny_pure ?_)))
          simp only [if_true]
          refine wp_if_neg (by simp [same]) ?_
          refine ih (c + (q + 1)) _ rfl (by omega) (by omega) fun i0 r h0 hk0 => ?_
          obtain ⟨d, d1, d2, d3⟩ := ahead i0 r h0 hk0
          refine ⟨d, ?_, d2, d3⟩
          rcases Nat.lt_trichotomy d (c + q) with z | z | z
          · exact absurd ((hashes i0 r h0).trans (congrArg (hsh w) hk0)) (before (d - c) i0 (by omega) (by rw [goj, show c + (d - c) = d by omega]; exact d3))
          · rw [z] at d3
            have e := slot_live R.tab.ris d3
            rw [live] at e
            injection e with e
            rw [← e, hp] at h0
            cases h0
            exact absurd hk0 same
          · omega
      by_cases hl : t.led = true
      · refine wp_if_neg (by simp [hl]) ?_
        try refine wpAny_bind (wpAny_pure ?_)
        exact rest
      · refine wp_if_pos (by simp [hl]) ?_
        refine wpAny_bind (seen_keys hx (fun y hy => ?_) ?_)
        · obtain ⟨u, hu1, rfl⟩ := List.mem_map.mp hy
          have hu2 : u ∈ es ∧ u.1 = hsh w k := by simpa using hu1
          have hu3 : u ∈ es.toList := by simpa using hu2.1
          rw [R.ents] at hu3
          obtain ⟨r, hr, rfl⟩ := List.mem_map.mp hu3
          exact ⟨r.2, r.1, rfl, R.keys r hr⟩
        · refine wp_if_neg (by decide) ?_
          try refine wpAny_bind (wpAny_pure ?_)
          exact rest
    · have hpr' : t.probe (fun i => (es[i]?.map (·.1)).getD 0) (hsh w k) (stand.getD (t.probeStart (hsh w k))) = some (.empty (way t.mask (hsh w k) K) none) := by
        have e := goj (K - c)
        rw [toK] at e
        rw [hst, ← e]
        exact hpr
      rw [hpr']
      dsimp only
      refine wpAny_pure (none' fun hm => ?_)
      obtain ⟨r, hr, hk0⟩ := List.mem_map.mp hm
      obtain ⟨i0, h0⟩ := List.getElem?_of_mem hr
      obtain ⟨d, d1, d2, d3⟩ := ahead i0 r h0 hk0
      exact before (d - c) i0 (by omega) (by rw [goj, show c + (d - c) = d by omega]; exact d3) ((hashes i0 r h0).trans (congrArg (hsh w) hk0))
/-- the whole search -/
theorem seek_all (R : NSet w s.heap a L es ep t) {x : Addr} {k : NestedKey} (hx : Key s.heap k x) (hu : A.units + 8 < cLine) {Q : SetFound → Shared → Prop} (there : k ∈ L.map (·.2) → Q (.there none) s)
    (none' : ∀ K, k ∉ L.map (·.2) → way t.mask (hsh w k) K ∉ t.place.toList → (∀ c, c < K → way t.mask (hsh w k) c ∈ t.place.toList) → Q (.free (way t.mask (hsh w k) K) false) s) :
    wpAny (model P w) A (setSearch a (.ref x) (hsh w k) true) Q E s := by
  have rm := R.room
  obtain ⟨K, lim, free, full⟩ := R.tab.first (by rw [List.length_map]; omega) (hsh w k)
  have big : K < 100000 := by
    have : 10 * SetTable.turns t.mask ≤ 1420 := by
      unfold SetTable.turns
      rcases R.tab.mok with e | e | e <;> omega
    omega
  unfold setSearch
  refine seek R hx hu lim free full there (fun hn => none' K hn free full) 100000 0 none rfl (Nat.zero_le _) (by omega) fun i p hp hk => ?_
  have il : i < t.place.toList.length := by
    rw [Array.length_toList, R.place]
    exact (List.getElem?_eq_some_iff.mp hp).1
  have hj := List.getElem?_eq_getElem il
  obtain ⟨c, hc, e⟩ := R.tab.before free (show (L.map fun p => hsh w p.2)[i]? = some (hsh w k) by rw [List.getElem?_map, hp, ← hk]; rfl) hj
  exact ⟨c, Nat.zero_le _, hc, by rw [hj, e]⟩
end
end Ns

namespace Ns
open PySem PySem.Spec PyProof.Rows L2
theorem perm_back {α β : Type} (f : α → β) {rs : List β} {ms : List β} (h : rs.Perm ms) : ∀ {L : List α}, ms = L.map f → ∃ L2 : List α, L2.Perm L ∧ rs = L2.map f := by
  induction h with
  | nil =>
    intro L e
    cases L with
    | nil => exact ⟨[], .refl _, rfl⟩
    | cons _ _ => cases e
  | cons x _ ih =>
    intro L e
    cases L with
    | nil => cases e
    | cons y L =>
      rw [List.map_cons] at e
      injection e with e1 e2
      obtain ⟨L2, p, q⟩ := ih e2
      exact ⟨y :: L2, p.cons y, by rw [List.map_cons, ← q, e1]⟩
  | swap x y l =>
    intro L e
    match L, e with
    | u :: v :: L, e =>
      rw [List.map_cons, List.map_cons] at e
      injection e with e1 e2
      injection e2 with e2 e3
      exact ⟨v :: u :: L, .swap u v L, by rw [List.map_cons, List.map_cons, e1, e2, e3]⟩
  | trans _ _ ih1 ih2 =>
    intro L e
    obtain ⟨L2, p2, q2⟩ := ih2 e
    obtain ⟨L3, p3, q3⟩ := ih1 q2
    exact ⟨L3, p3.trans p2, q3⟩
/-- picking by places that are a permutation -/
theorem pick_perm {α : Type} (es : List α) : (List.range es.length).filterMap (fun i => es[i]?) = es := by
  have up : ∀ n, n ≤ es.length → (List.range n).filterMap (fun i => es[i]?) = es.take n := by
    intro n
    induction n with
    | zero => intro _; rfl
    | succ n ih =>
      intro hn
      rw [List.range_succ, List.filterMap_append, ih (by omega), List.take_succ, List.getElem?_eq_getElem hn, List.filterMap_cons_some (List.getElem?_eq_getElem hn)]
      rfl
  rw [up _ (Nat.le_refl _), List.take_length]
theorem pick_fst {es : List (Int × Value)} : ∀ (l : List Nat), (∀ i ∈ l, i < es.length) → (l.filterMap (fun i => es[i]?)).map (·.1) = l.map fun i => ((es.map (·.1))[i]?).getD 0
  | [], _ => rfl
  | i :: l, h => by
    have hi := h i List.mem_cons_self
    rw [List.filterMap_cons_some (List.getElem?_eq_getElem hi), List.map_cons, List.map_cons, pick_fst l fun j hj => h j (List.mem_cons_of_mem _ hj), List.getElem?_map, List.getElem?_eq_getElem hi]
    rfl
section
variable {P : Program} {w : World} {A : Around} {E : Value → Shared → Prop} {s : Shared} {h : Heap} {a : Addr} {L : List (Addr × NestedKey)} {es : Array (Int × Value)} {ep : Nat} {t : SetTable}
/-- all but the object and the room: what a table that is just about to be laid anew is -/
theorem relay {o : Obj} (ho : s.heap.get? a = some o) (hex : o.ExactSet) (hd : o.data = .set es ep t) (ents : es.toList = L.map (ent w)) (pl : t.place.size = es.size) (dm : t.dummies = #[]) (fill : es.size ≤ t.mask)
    (once : (L.map (·.2)).Nodup) (keys : ∀ p ∈ L, Key s.heap p.2 p.1) (led : w.params.followText "set-order" = true ∨ t.led = true) (few : L.length < 64) {wanted M : Nat}
    (size : SetTable.sizeAbove wanted - 1 = M) (ok : MaskOk M) (small : SetTable.sizeAbove wanted ≤ 128) (room : L.length * 5 < M * 3) {Q : Unit → Shared → Prop}
    (k : ∀ h' L' es' ep' t', Heap.SameBut a s.heap h' → NSet w h' a L' es' ep' t' → L'.Perm L → Q () { s with heap := h' }) : wpAny (model P w) A (setRelay a wanted) Q E s := by
  have sz : es.size = L.length := by
    have e := congrArg List.length ents
    rwa [Array.length_toList, List.length_map] at e
  obtain ⟨t', order, re, pm, T, tm, tl, _, td⟩ := relaid_ok t (hs := es.map (·.1)) (wanted := wanted) size ok (by rw [Array.size_map, sz]; omega)
  rw [Array.size_map] at pm
  have el : es.toList.length = es.size := Array.length_toList
  have inr : ∀ i ∈ order.toList, i < es.toList.length := fun i hi => by rw [el]; exact List.mem_range.mp (pm.mem_iff.mp hi)
  have picked : (order.filterMap (es[·]?)).toList = order.toList.filterMap fun i => es.toList[i]? := by
    rw [Array.toList_filterMap]
    congr 1
    funext i
    rw [Array.getElem?_toList]
  have pp : (order.filterMap (es[·]?)).toList.Perm es.toList := by
    rw [picked]
    have e := pm.filterMap fun i => es.toList[i]?
    rwa [← el, pick_perm] at e
  obtain ⟨L2, p2, q2⟩ := perm_back (ent w) pp ents
  have hf : (L2.map fun p => hsh w p.2) = order.toList.map fun i => (es.map (·.1)).getD i 0 := by
    have e1 : (L2.map fun p => hsh w p.2) = (order.filterMap (es[·]?)).toList.map (·.1) := by
      rw [q2, List.map_map]
      rfl
    rw [e1, picked, pick_fst _ inr]
    refine List.map_congr_left fun i _ => ?_
    rw [Array.getD_eq_getD_getElem?, ← Array.getElem?_toList, Array.toList_map]
  rw [← hf] at T
  have sz2 : (order.filterMap (es[·]?)).size = es.size := by
    have e := pp.length_eq
    rwa [Array.length_toList, Array.length_toList] at e
  rw [setRelay_eq]
  refine wpAny_bind (wpAny_setState_of ho hd (fits_of dm pl fill) ?_)
  dsimp only
  refine wp_if_neg (by rw [sizeLine_eq]; omega) ?_
  try refine wpAny_bind (wpAny_pure ?_)
  rw [re]
  dsimp only
  refine wpAny_bind ?_
  refine wp_if_neg (by rw [sz2]; simp) ?_
  try refine wpAny_bind (wpAny_pure ?_)
  refine wpAny_pure ?_
  dsimp only
  refine wpAny_storeSet_of ho hd ?_ (by rw [sz2, sz, sizeLine_eq]; omega)
  have sb : Heap.SameBut a s.heap (s.heap.update a (Obj.putSet (order.filterMap (es[·]?)) t')) := Heap.SameBut.update ..
  refine k _ L2 (order.filterMap (es[·]?)) (ep + 1) t' sb {
    obj := ⟨_, store_at ho hd, ⟨hex.1, hex.2.1, hex.2.2⟩, rfl⟩
    ents := q2
    tab := T
    once := (p2.map (·.2)).nodup_iff.mpr once
    keys := fun p hp => (keys p (p2.mem_iff.mp hp)).but ho hd sb
    led := by rw [tl]; exact led
    room := by rw [p2.length_eq, tm]; exact room
    few := by rw [p2.length_eq]; exact few } p2
/-- one key put in -/
theorem put (R : NSet w s.heap a L es ep t) {x : Addr} {k : NestedKey} (hx : Key s.heap k x) (hu : A.units + 8 < cLine) (more : L.length + 1 < 64) {Q : Bool → Shared → Prop}
    (q : ∀ b h' L' es' ep' t', Heap.SameBut a s.heap h' → NSet w h' a L' es' ep' t' → (k ∈ L.map (·.2) → L' = L) → (k ∉ L.map (·.2) → L'.Perm ((x, k) :: L)) → Q b { s with heap := h' }) :
    wpAny (model P w) A (setAddHashed a (.ref x) (hsh w k)) Q E s := by
  obtain ⟨o, ho, hex, hd⟩ := R.obj
  have sz := R.size
  have rm := R.room
  unfold setAddHashed
  refine wpAny_holding ?_
  rw [show (100000 : Nat) = 99999 + 1 from rfl, setAddHashedIn_succ]
  refine wpAny_bind (wpAny_setState_of ho hd R.fits ?_)
  dsimp only
  refine wp_if_neg (by simp [byScan, Value.scannable]) ?_
  try refine wpAny_bind (wpAny_pure ?_)
  refine wpAny_bind (seek_all R hx hu (fun hm => ?_) fun K hm hK hb => ?_)
  · dsimp only
    exact wpAny_pure (q false s.heap L es ep t (Heap.SameBut.refl a s.heap) R (fun _ => rfl) fun z => absurd hm z)
  · dsimp only
    refine wpAny_bind (wpAny_setState_of ho hd R.fits ?_)
    dsimp only
    obtain ⟨q1, q2, q3, q4, q5, q6, q7, q8, q9⟩ := R.tab.put hK hb
    generalize hpt : t.put (way t.mask (hsh w k) K) = pt at q1 q3 q4 q5 q6 q7 q8 q9 ⊢
    obtain ⟨t1, p⟩ := pt
    dsimp only at q1 q3 q4 q5 q6 q7 q8 q9 ⊢
    subst q1
    rw [List.length_map] at q2 q9
    generalize hpp : SetTable.below t.place (way t.mask (hsh w k) K) = p at q2 q3 ⊢
    have pm : (L.take p ++ (x, k) :: L.drop p).Perm ((x, k) :: L) := put_perm L p (x, k)
    have len : (L.take p ++ (x, k) :: L.drop p).length = L.length + 1 := pm.length_eq
    have hin : (SetTable.insertAt es p (hsh w k, Value.ref x)).toList = (L.take p ++ (x, k) :: L.drop p).map (ent w) := by
      rw [SetTable.toList_insertAt, R.ents, List.map_append, List.map_cons, List.map_take, List.map_drop]
      rfl
    have T1 : TabOk t1 ((L.take p ++ (x, k) :: L.drop p).map fun p => hsh w p.2) := by
      rw [List.map_append, List.map_cons, List.map_take, List.map_drop]
      exact q3
    have nd1 : ((L.take p ++ (x, k) :: L.drop p).map (·.2)).Nodup := (pm.map (·.2)).nodup_iff.mpr (List.nodup_cons.mpr ⟨hm, R.once⟩)
    have s1 : (SetTable.insertAt es p (hsh w k, Value.ref x)).size = L.length + 1 := by
      have e := congrArg List.length hin
      rwa [Array.length_toList, List.length_map, len] at e
    generalize SetTable.insertAt es p (hsh w k, Value.ref x) = es1 at hin s1 ⊢
    generalize L.take p ++ (x, k) :: L.drop p = L1 at pm len hin T1 nd1
    have tail : ∀ t2 : SetTable, TabOk t2 (L1.map fun p => hsh w p.2) → t2.mask = t.mask → t2.led = t.led → t2.fill = L.length + 1 → wpAny (model P w) A (do
        storeSet a es1 t2
        if (!false && t2.tooFull) = true then do
          setRelay a (SetTable.grown (es.size + 1))
          pure true
        else pure true) Q E s := by
      intro t2 T2 m2 l2 f2
      refine wpAny_bind (wpAny_storeSet_of ho hd ?_ (by rw [s1, sizeLine_eq]; omega))
      have sb : Heap.SameBut a s.heap (s.heap.update a (Obj.putSet es1 t2)) := Heap.SameBut.update ..
      have ho1 := store_at (es' := es1) (t' := t2) ho hd
      have keys1 : ∀ p ∈ L1, Key (s.heap.update a (Obj.putSet es1 t2)) p.2 p.1 := fun p hp => by
        rcases List.mem_cons.mp (pm.mem_iff.mp hp) with e | hp
        · rw [e]; exact hx.but ho hd sb
        · exact (R.keys p hp).but ho hd sb
      generalize s.heap.update a (Obj.putSet es1 t2) = h1 at sb ho1 keys1 ⊢
      have ld1 : w.params.followText "set-order" = true ∨ t2.led = true := by rw [l2]; exact R.led
      have ps2 : t2.place.size = es1.size := by
        have e := T2.sz
        rw [List.length_map, len] at e
        rw [e, s1]
      by_cases hf : t2.tooFull = true
      · refine wp_if_pos (by simp [hf]) ?_
        have full : (L.length + 1) * 5 ≥ t2.mask * 3 := by
          have e := hf
          unfold SetTable.tooFull at e
          rwa [decide_eq_true_eq, f2] at e
        have two : (t.mask = 7 ∧ L.length = 4) ∨ (t.mask = 31 ∧ L.length = 18) := by
          rw [m2] at full
          rcases R.tab.mok with e | e | e <;> rw [e] at full rm
          · exact .inl ⟨e, by omega⟩
          · exact .inr ⟨e, by omega⟩
          · omega
        rw [sz]
        have go : ∀ M, SetTable.sizeAbove (SetTable.grown (L.length + 1)) - 1 = M → MaskOk M → SetTable.sizeAbove (SetTable.grown (L.length + 1)) ≤ 128 → (L.length + 1) * 5 < M * 3 →
            wpAny (model P w) A (do setRelay a (SetTable.grown (L.length + 1)); pure true) Q E { s with heap := h1 } := fun M g1 g2 g3 g4 => by
          refine wpAny_bind (relay (s := { s with heap := h1 }) ho1 ⟨hex.1, hex.2.1, hex.2.2⟩ rfl hin ps2 T2.dm (by rw [s1, m2]; rcases two with ⟨e, e2⟩ | ⟨e, e2⟩ <;> omega) nd1 keys1 ld1 (by rw [len]; exact more) g1 g2 g3 (by rw [len]; exact g4) ?_)
          intro h2 L2 es2 ep2 t3 sb2 R2 pm2
          exact wpAny_pure (q true h2 L2 es2 ep2 t3 (sb.trans sb2) R2 (fun z => absurd z hm) fun _ => pm2.trans pm)
        rcases two with ⟨_, e2⟩ | ⟨_, e2⟩
        · exact go 31 (by rw [e2, size_20]) (.inr (.inl rfl)) (by rw [e2, size_20]; decide) (by omega)
        · exact go 127 (by rw [e2, size_76]) (.inr (.inr rfl)) (by rw [e2, size_76]; decide) (by omega)
      · refine wp_if_neg (by simp [hf]) ?_
        refine wpAny_pure (q true h1 L1 es1 (ep + 1) t2 sb ⟨⟨_, ho1, ⟨hex.1, hex.2.1, hex.2.2⟩, rfl⟩, hin, T2, nd1, keys1, ld1, ?_, by rw [len]; exact more⟩ (fun z => absurd z hm) fun _ => pm)
        have e := hf
        unfold SetTable.tooFull at e
        rw [decide_eq_true_eq, f2] at e
        rw [len]
        omega
    have plainOff : ∀ b, TabOk { t1 with plain := b } (L1.map fun p => hsh w p.2) := fun b => ⟨T1.ris, T1.dm, T1.sz, T1.mok, T1.bd, T1.reach⟩
    by_cases hp1 : t1.plain = true
    · refine wp_if_pos hp1 (wpAny_bind (byVal_key k _ 8 s hx.1 hx.2 _ _ _ fun b => ?_))
      cases b with
      | true => exact tail t1 T1 q4 q5 q9
      | false => exact tail { t1 with plain := false } (plainOff false) q4 q5 q9
    · refine wp_if_neg hp1 (wpAny_bind (wpAny_pure ?_))
      exact tail t1 T1 q4 q5 q9
end
end Ns

namespace Ns
open PySem PySem.Spec PyProof.Rows L2
/-- L: what came of the first i of ks, alike ones once -/
structure Came (ks : List (Addr × NestedKey)) (i : Nat) (L : List (Addr × NestedKey)) : Prop where
  among : ∀ p ∈ L, p ∈ ks.take i
  every : ∀ p ∈ ks.take i, p.2 ∈ L.map (·.2)
  len : L.length ≤ i
theorem Came.start (ks : List (Addr × NestedKey)) : Came ks 0 [] := ⟨fun p m => absurd m List.not_mem_nil, fun p m => by simp at m, Nat.le_refl _⟩
theorem Came.old {ks L : List (Addr × NestedKey)} {i : Nat} {x : Addr × NestedKey} (g : Came ks i L) (e : ks[i]? = some x) (m : x.2 ∈ L.map (·.2)) : Came ks (i + 1) L := by
  have tn : ks.take (i + 1) = ks.take i ++ [x] := by
    rw [List.take_succ, e]
    rfl
  refine ⟨fun p hp => ?_, fun p hp => ?_, Nat.le_succ_of_le g.len⟩
  · rw [tn]
    exact List.mem_append_left _ (g.among p hp)
  · rw [tn] at hp
    rcases List.mem_append.mp hp with z | z
    · exact g.every p z
    · rw [List.mem_singleton.mp z]
      exact m
theorem Came.new {ks L L' : List (Addr × NestedKey)} {i : Nat} {x : Addr × NestedKey} (g : Came ks i L) (e : ks[i]? = some x) (pm : L'.Perm (x :: L)) : Came ks (i + 1) L' := by
  have tn : ks.take (i + 1) = ks.take i ++ [x] := by
    rw [List.take_succ, e]
    rfl
  refine ⟨fun p hp => ?_, fun p hp => ?_, by rw [pm.length_eq, List.length_cons]; exact Nat.succ_le_succ g.len⟩
  · rw [tn]
    rcases List.mem_cons.mp (pm.mem_iff.mp hp) with z | z
    · rw [z]
      exact List.mem_append_right _ List.mem_cons_self
    · exact List.mem_append_left _ (g.among p z)
  · have back : ∀ q, q ∈ (x :: L).map (·.2) → q ∈ L'.map (·.2) := fun q hq => (pm.map (·.2)).mem_iff.mpr hq
    rw [tn] at hp
    rcases List.mem_append.mp hp with z | z
    · exact back _ (List.mem_cons_of_mem _ (g.every p z))
    · rw [List.mem_singleton.mp z]
      exact back _ List.mem_cons_self
section
variable {P : Program} {w : World} {A : Around} {E : Value → Shared → Prop} {s : Shared}
theorem Key.kept {h h' : Heap} {k : NestedKey} {b : Addr} (x : Key h k b) (kp : ∀ c o, h.get? c = some o → h'.get? c = some o) : Key h' k b := x.at fun c o _ _ e _ => kp c o e
theorem NSet.kept {h h' : Heap} {a : Addr} {L : List (Addr × NestedKey)} {es : Array (Int × Value)} {ep : Nat} {t : SetTable} (R : NSet w h a L es ep t) (ha : ∀ o, h.get? a = some o → h'.get? a = some o) (hk : ∀ p ∈ L, Key h' p.2 p.1) : NSet w h' a L es ep t := by
  obtain ⟨o, ho, r⟩ := R.obj
  exact ⟨⟨o, ha o ho, r⟩, R.ents, R.tab, R.once, hk, R.led, R.room, R.few⟩
/-- the object of a new set -/
abbrev newSet (w : World) : Obj := { cls := .type "set", dict := none, data := .set #[] 0 (.fresh 0 0 (!w.params.followText "set-order")) }
theorem nset_new {h : Heap} {a : Addr} (ho : h.get? a = some (newSet w)) : NSet w h a [] #[] 0 (.fresh 0 0 (!w.params.followText "set-order")) where
  obj := ⟨_, ho, ⟨rfl, rfl, rfl⟩, rfl⟩
  ents := rfl
  tab := ⟨List.Pairwise.nil, rfl, rfl, .inl rfl, fun x hx => (nomatch hx), fun i h j hi => by simp at hi⟩
  once := List.nodup_nil
  keys := fun p m => absurd m List.not_mem_nil
  led := by
    show _ ∨ (!w.params.followText "set-order") = true
    cases w.params.followText "set-order" with
    | true => exact .inl rfl
    | false => exact .inr rfl
  room := by show 0 * 5 < 7 * 3; decide
  few := by show 0 < 64; decide
/-- the loop that fills a set -/
theorem fill_loop {I : Addr} {fp wr : List Addr} {G : Array GenState → Array GenState → Prop} {n : Nat} {Pv : Nat → Value → Prop} {St : Nat → Shared → Prop} {R : Result → Shared → Prop}
    (W : WalksS P w A.in1 I fp wr G n Pv St) (S : Addr) (off : S ∉ fp) (ks : List (Addr × NestedKey)) (hn : n = ks.length) (few : ks.length < 64) (val : ∀ i v, Pv i v → ∃ p, ks[i]? = some p ∧ v = .ref p.1)
    (h0 : Heap) (hk : ∀ p ∈ ks, Key h0 p.2 p.1) (noS : h0.get? S = none) (noW : ∀ b ∈ wr, h0.get? b = none) (hu : A.in1.units + 8 < cLine) :
    ∀ (k i : Nat) (s : Shared), n - i = k → i ≤ n → St i s → (∀ b o, h0.get? b = some o → s.heap.get? b = some o) → (∃ L es ep t, NSet w s.heap S L es ep t ∧ Came ks i L) →
      (∀ s' L es ep t, Moved (S :: wr) G s s' → NSet w s'.heap S L es ep t → Came ks n L → (∀ b o, h0.get? b = some o → s'.heap.get? b = some o) → R (.ok (.ret .none)) s') →
      codeAny (model P w) A (.builtin "set.update.loop" ⟨[.ref S, .ref I], []⟩) R s := by
  have offW : S ∉ wr := fun z => off (W.sub _ z)
  have wider : ∀ b ∈ wr, b ∈ S :: wr := fun b hb => List.mem_cons_of_mem _ hb
  have stay : ∀ {s s' : Shared}, Moved wr G s s' → (∀ b o, h0.get? b = some o → s.heap.get? b = some o) → ∀ b o, h0.get? b = some o → s'.heap.get? b = some o := fun hm kp b o e =>
    hm.heap b o (fun z => by rw [noW b z] at e; cases e) (kp b o e)
  have inks : ∀ {i : Nat} {L : List (Addr × NestedKey)}, Came ks i L → ∀ p ∈ L, p ∈ ks := fun g p hp => List.mem_of_mem_take (g.among p hp)
  intro k
  induction k with
  | zero =>
    intro i s dist le st kp ⟨L, es, ep, t, hS, g⟩ fin
    obtain rfl : i = n := by omega
    refine codeAny_builtin F.entry_set_update_loop ?_
    rw [Around.under_plainId F.plain_set_update_loop _]
    show wpAny _ A.in1 (pyNext (.ref I) >>= _) _ _ s
    refine wpAny_bind (W.done s _ _ st fun s' hm => ?_)
    show wpAny _ A.in1 (ret Value.none) _ _ s'
    have kp' := stay hm kp
    exact wpAny_pure (fin s' L es ep t (hm.mono wider) (hS.kept (fun o e => hm.heap S o offW e) fun p hp => (hk p (inks g p hp)).kept kp') g kp')
  | succ k ih =>
    intro i s dist le st kp ⟨L, es, ep, t, hS, g⟩ fin
    have lt : i < n := by omega
    refine codeAny_builtin F.entry_set_update_loop ?_
    rw [Around.under_plainId F.plain_set_update_loop _]
    show wpAny _ A.in1 (pyNext (.ref I) >>= _) _ _ s
    refine wpAny_bind (W.item i s _ _ lt st fun v s' hP st' hm => ?_)
    obtain ⟨p, hp, rfl⟩ := val i v hP
    have kp' := stay hm kp
    have hS' : NSet w s'.heap S L es ep t := hS.kept (fun o e => hm.heap S o offW e) fun q hq => (hk q (inks g q hq)).kept kp'
    have hx : Key s'.heap p.2 p.1 := (hk p (List.mem_of_getElem? hp)).kept kp'
    show wpAny _ A.in1 (holding [Value.ref p.1] (setAdd S (.ref p.1)) >>= _) _ _ s'
    refine wpAny_bind (wpAny_holding ?_)
    unfold setAdd
    refine wpAny_holding ?_
    refine wpAny_bind ((nestedKind P w).pyHash (k := p.2) hu hx ?_)
    refine put (s := { s' with toks := s'.toks + p.2.draws }) hS' hx hu (by have := g.len; omega) fun b h' L' es' ep' t' same hS2 c1 c2 => ?_
    have g' : Came ks (i + 1) L' := by
      by_cases c : p.2 ∈ L.map (·.2)
      · rw [c1 c]
        exact g.old hp c
      · exact g.new hp (c2 c)
    have kp2 : ∀ b o, h0.get? b = some o → h'.get? b = some o := fun b o e => (same.2 b (fun z => by rw [z, noS] at e; cases e)).trans (kp' b o e)
    refine wpAny_pure ⟨plainId_quiet F.plain_set_update_loop _, ih (i + 1) _ (by omega) lt (W.frame _ s' _ _ st' (Nat.le_add_right _ _) fun b hb o e => ?_) kp2 ⟨L', es', ep', t', hS2, g'⟩ fun s'' L2 es2 ep2 t2 hm2 hS3 g3 kp3 => ?_⟩
    · rw [same.2 b (fun z : b = S => off (by rw [← z]; exact hb))]
      exact e
    · refine fin s'' L2 es2 ep2 t2 (Moved.trans W.gtrans ((hm.mono wider).then_heap (Nat.le_add_right _ _) fun b o hb e => ?_) hm2) hS3 g3 kp3
      rw [same.2 b (fun z : b = S => hb (by rw [z]; exact List.mem_cons_self))]
      exact e
set_option maxHeartbeats 3200000 in
/-- set(xs) of a list of keys -/
theorem call_set {l : Addr} {items : Array Value} (ks : List (Addr × NestedKey)) {Q : Value → Shared → Prop} (cold : A.handled = none) (hl : s.heap.IsList l items) (hit : items.toList = ks.map fun p => Value.ref p.1)
    (hk : ∀ p ∈ ks, Key s.heap p.2 p.1) (few : ks.length < 64) (hu : A.units + 11 < cLine)
    (q : ∀ (h' : Heap) (tk : Nat) L es ep t, NSet w h' s.heap.objs.size L es ep t → Came ks ks.length L → (∀ b o, s.heap.get? b = some o → h'.get? b = some o) → Q (.ref s.heap.objs.size) { s with heap := h', toks := tk }) :
    wpAny (model P w) A (call (.type "set") [.ref l]) Q E s := by
  have isz : items.size = ks.length := by
    have e := congrArg List.length hit
    rwa [Array.length_toList, List.length_map] at e
  obtain ⟨c, tl, hmro⟩ := F.called_set.mro
  have hmade := F.called_set.made
  have hsub := F.called_set.sub
  refine wpAny_call (codeAny_of_tree ?_)
  show wpAny _ _ (callAny (.type "set") _) _ _ _
  refine wpAny_pure ⟨Code.quiet_builtin _ (by decide +kernel), codeAny_builtin F.entry_type_call ?_⟩
  rw [Around.under_plain (weight_type_call_type "set" [.ref l] []) rfl]
  have h1 := F.called_set.notType
  have h2 := F.called_set.canCreate
  have hct := F.typeCall_set_1 (.ref l)
  repeat (any_goals (first | assumption | wp_step))
  refine codeAny_mono (code_set_led1 (.ref l) (E := E) (Q₁ := fun obj s₁ => obj = .ref s.heap.objs.size ∧ s₁ = { s with heap := s.heap.push (newSet w) }) ⟨rfl, rfl⟩) fun r s₁ hr => ?_
  match r, hr with
  | .error e, hr => exact hr
  | .ok (.ret obj), hr =>
    obtain ⟨rfl, rfl⟩ := hr
    have atS : (s.heap.push (newSet w)).get? s.heap.objs.size = some (newSet w) := Heap.get?_push_size _ rfl
    have tyS : Shared.TypeIs { s with heap := s.heap.push (newSet w) } (.ref s.heap.objs.size) "set" := ⟨_, atS, rfl⟩
    have hli := F.called_set.init.lookup
    have hbi := F.called_set.init.bind (.ref s.heap.objs.size)
    repeat (any_goals (first | assumption | wp_step))
    refine codeAny_mono (codeAny_call_builtin (R := wants (fun r s₂ => r = .none ∧ ∃ h' tk L es ep t, s₂ = { s with heap := h', toks := tk } ∧ NSet w h' s.heap.objs.size L es ep t ∧ Came ks ks.length L ∧
        (∀ b o, s.heap.get? b = some o → h'.get? b = some o)) E) F.called_set.init.plain F.entry_set_init (check_set_init_1 tyS ?_)) fun r₂ s₂ hr₂ => ?_
    · obtain ⟨ol, hol, hcl, nl, hdl⟩ := hl
      obtain ⟨ocls, odict, odata, oslots⟩ := ol
      simp only at hcl hdl
      subst hcl; subst hdl
      have hsls := F.sub_list_set
      have hslf := F.sub_list_frozenset
      have hne : (Value.type "list" == Value.type "dict") = false := by decide
      have hol' : (s.heap.push (newSet w)).get? l = some { cls := .type "list", dict := odict, data := .seq items nl, slots := oslots } := Heap.get?_push_of_some _ hol
      have isl : (s.heap.push (newSet w)).IsList l items := ⟨_, hol', rfl, nl, rfl⟩
      unfold Builtin.«set.__init__» noKeywords Builtin.Frozenset.updateFrom
      generalize hPI : pyIter = PI
      wp_walk
      subst hPI
      refine wpAny_pyIter_list isl ?_
      refine wpAny_bind (wpAny_runValue ?_)
      have below : l < s.heap.objs.size := Heap.lt_size hol
      have cold3 : A.in1.in1.in1.handled = none := by simp [cold]
      have sz1 : (s.heap.push (newSet w)).objs.size = s.heap.objs.size + 1 := Heap.size_push ..
      have nel : l ≠ (s.heap.push (newSet w)).objs.size := by rw [sz1]; exact Nat.ne_of_lt (Nat.lt_succ_of_lt below)
      have off : s.heap.objs.size ∉ [(s.heap.push (newSet w)).objs.size, l] := by
        rw [sz1]
        simp only [List.mem_cons, List.not_mem_nil, or_false, not_or]
        exact ⟨Nat.ne_of_lt (Nat.lt_succ_self _), Nat.ne_of_gt below⟩
      have val : ∀ (i : Nat) (v : Value), items[i]? = some v → ∃ p, ks[i]? = some p ∧ v = .ref p.1 := fun i v hv => by
        have e : items.toList[i]? = some v := by rw [Array.getElem?_toList]; exact hv
        rw [hit, List.getElem?_map] at e
        cases g : ks[i]? with
        | none => rw [g] at e; cases e
        | some p =>
          rw [g] at e
          exact ⟨p, rfl, (Option.some.inj e).symm⟩
      have gone : ∀ b, s.heap.objs.size ≤ b → s.heap.get? b = none := fun b hb => by
        cases g : s.heap.get? b with
        | none => rfl
        | some o => exact absurd (Nat.lt_of_lt_of_le (Heap.lt_size g) hb) (Nat.lt_irrefl _)
      refine fill_loop ((Walks.list cold3 _ l nel items).toS) s.heap.objs.size off ks isz few val s.heap hk (gone _ (Nat.le_refl _)) (fun b hb => gone b (by rw [List.mem_singleton.mp hb, sz1]; exact Nat.le_succ _)) (by simp only [Around.in1_units]; omega) (items.size - 0) 0 _ (by omega) (Nat.zero_le _)
        ⟨⟨_, Heap.get?_push_size _ rfl, rfl, rfl⟩, (isl.push _)⟩ (fun b o e => Heap.get?_push_of_some _ (Heap.get?_push_of_some _ e)) ?begin ?done
      case begin =>
        have e : ((s.heap.push (newSet w)).push { cls := .type "list_iterator", data := .fields #[.ref l, .int 0 0] }).get? s.heap.objs.size = some (newSet w) := Heap.get?_push_of_some _ atS
        exact ⟨[], #[], 0, _, nset_new e, Came.start ks⟩
      case done =>
        intro s' L es ep t hm hS' g' kp
        obtain ⟨h', g2, d', tk', os'⟩ := s'
        obtain rfl : g2 = s.gens := hm.gens
        obtain rfl : d' = s.drawn := hm.drawn
        obtain rfl : os' = s.os := hm.os
        show wpAny _ _ _ _ _ _
        refine wpAny_pure ?_
        show wpAny _ _ (ret Value.none) _ _ _
        rw [isz] at g'
        exact wpAny_pure ⟨rfl, h', tk', L, es, ep, t, rfl, hS', g', kp⟩
    · match r₂, hr₂ with
      | .error e, hr₂ => exact hr₂
      | .ok (.ret r), hr₂ =>
        obtain ⟨rfl, h', tk, L, es, ep, t, rfl, hS', g', hk'⟩ := hr₂
        repeat (any_goals (first | assumption | wp_step))
        exact q _ _ _ _ _ _ hS' g' hk'
set_option maxHeartbeats 3200000 in
/-- set(xs) of a tuple of keys -/
theorem call_setT {l : Addr} {items : Array Value} (ks : List (Addr × NestedKey)) {Q : Value → Shared → Prop} (cold : A.handled = none) (hl : s.heap.IsTuple l items) (hit : items.toList = ks.map fun p => Value.ref p.1)
    (hk : ∀ p ∈ ks, Key s.heap p.2 p.1) (few : ks.length < 64) (hu : A.units + 11 < cLine)
    (q : ∀ (h' : Heap) (tk : Nat) L es ep t, NSet w h' s.heap.objs.size L es ep t → Came ks ks.length L → (∀ b o, s.heap.get? b = some o → h'.get? b = some o) → Q (.ref s.heap.objs.size) { s with heap := h', toks := tk }) :
    wpAny (model P w) A (call (.type "set") [.ref l]) Q E s := by
  have isz : items.size = ks.length := by
    have e := congrArg List.length hit
    rwa [Array.length_toList, List.length_map] at e
  obtain ⟨c, tl, hmro⟩ := F.called_set.mro
  have hmade := F.called_set.made
  have hsub := F.called_set.sub
  refine wpAny_call (codeAny_of_tree ?_)
  show wpAny _ _ (callAny (.type "set") _) _ _ _
  refine wpAny_pure ⟨Code.quiet_builtin _ (by decide +kernel), codeAny_builtin F.entry_type_call ?_⟩
  rw [Around.under_plain (weight_type_call_type "set" [.ref l] []) rfl]
  have h1 := F.called_set.notType
  have h2 := F.called_set.canCreate
  have hct := F.typeCall_set_1 (.ref l)
  repeat (any_goals (first | assumption | wp_step))
  refine codeAny_mono (code_set_led1 (.ref l) (E := E) (Q₁ := fun obj s₁ => obj = .ref s.heap.objs.size ∧ s₁ = { s with heap := s.heap.push (newSet w) }) ⟨rfl, rfl⟩) fun r s₁ hr => ?_
  match r, hr with
  | .error e, hr => exact hr
  | .ok (.ret obj), hr =>
    obtain ⟨rfl, rfl⟩ := hr
    have atS : (s.heap.push (newSet w)).get? s.heap.objs.size = some (newSet w) := Heap.get?_push_size _ rfl
    have tyS : Shared.TypeIs { s with heap := s.heap.push (newSet w) } (.ref s.heap.objs.size) "set" := ⟨_, atS, rfl⟩
    have hli := F.called_set.init.lookup
    have hbi := F.called_set.init.bind (.ref s.heap.objs.size)
    repeat (any_goals (first | assumption | wp_step))
    refine codeAny_mono (codeAny_call_builtin (R := wants (fun r s₂ => r = .none ∧ ∃ h' tk L es ep t, s₂ = { s with heap := h', toks := tk } ∧ NSet w h' s.heap.objs.size L es ep t ∧ Came ks ks.length L ∧
        (∀ b o, s.heap.get? b = some o → h'.get? b = some o)) E) F.called_set.init.plain F.entry_set_init (check_set_init_1 tyS ?_)) fun r₂ s₂ hr₂ => ?_
    · obtain ⟨ol, hol, hcl, nl, hdl⟩ := hl
      obtain ⟨ocls, odict, odata, oslots⟩ := ol
      simp only at hcl hdl
      subst hcl; subst hdl
      have hsls := F.sub_tuple_set
      have hslf := F.sub_tuple_frozenset
      have hne : (Value.type "tuple" == Value.type "dict") = false := by decide
      have hol' : (s.heap.push (newSet w)).get? l = some { cls := .type "tuple", dict := odict, data := .seq items nl, slots := oslots } := Heap.get?_push_of_some _ hol
      have isl : (s.heap.push (newSet w)).IsTuple l items := ⟨_, hol', rfl, nl, rfl⟩
      unfold Builtin.«set.__init__» noKeywords Builtin.Frozenset.updateFrom
      generalize hPI : pyIter = PI
      wp_walk
      subst hPI
      refine wpAny_pyIter_tuple isl ?_
      refine wpAny_bind (wpAny_runValue ?_)
      have below : l < s.heap.objs.size := Heap.lt_size hol
      have cold3 : A.in1.in1.in1.handled = none := by simp [cold]
      have sz1 : (s.heap.push (newSet w)).objs.size = s.heap.objs.size + 1 := Heap.size_push ..
      have nel : l ≠ (s.heap.push (newSet w)).objs.size := by rw [sz1]; exact Nat.ne_of_lt (Nat.lt_succ_of_lt below)
      have off : s.heap.objs.size ∉ [(s.heap.push (newSet w)).objs.size, l] := by
        rw [sz1]
        simp only [List.mem_cons, List.not_mem_nil, or_false, not_or]
        exact ⟨Nat.ne_of_lt (Nat.lt_succ_self _), Nat.ne_of_gt below⟩
      have val : ∀ (i : Nat) (v : Value), items[i]? = some v → ∃ p, ks[i]? = some p ∧ v = .ref p.1 := fun i v hv => by
        have e : items.toList[i]? = some v := by rw [Array.getElem?_toList]; exact hv
        rw [hit, List.getElem?_map] at e
        cases g : ks[i]? with
        | none => rw [g] at e; cases e
        | some p =>
          rw [g] at e
          exact ⟨p, rfl, (Option.some.inj e).symm⟩
      have gone : ∀ b, s.heap.objs.size ≤ b → s.heap.get? b = none := fun b hb => by
        cases g : s.heap.get? b with
        | none => rfl
        | some o => exact absurd (Nat.lt_of_lt_of_le (Heap.lt_size g) hb) (Nat.lt_irrefl _)
      refine fill_loop ((Walks.tuple cold3 _ l nel items).toS) s.heap.objs.size off ks isz few val s.heap hk (gone _ (Nat.le_refl _)) (fun b hb => gone b (by rw [List.mem_singleton.mp hb, sz1]; exact Nat.le_succ _)) (by simp only [Around.in1_units]; omega) (items.size - 0) 0 _ (by omega) (Nat.zero_le _)
        ⟨⟨_, Heap.get?_push_size _ rfl, rfl, rfl⟩, (isl.push _)⟩ (fun b o e => Heap.get?_push_of_some _ (Heap.get?_push_of_some _ e)) ?begin ?done
      case begin =>
        have e : ((s.heap.push (newSet w)).push { cls := .type "tuple_iterator", data := .fields #[.ref l, .int 0 0] }).get? s.heap.objs.size = some (newSet w) := Heap.get?_push_of_some _ atS
        exact ⟨[], #[], 0, _, nset_new e, Came.start ks⟩
      case done =>
        intro s' L es ep t hm hS' g' kp
        obtain ⟨h', g2, d', tk', os'⟩ := s'
        obtain rfl : g2 = s.gens := hm.gens
        obtain rfl : d' = s.drawn := hm.drawn
        obtain rfl : os' = s.os := hm.os
        show wpAny _ _ _ _ _ _
        refine wpAny_pure ?_
        show wpAny _ _ (ret Value.none) _ _ _
        rw [isz] at g'
        exact wpAny_pure ⟨rfl, h', tk', L, es, ep, t, rfl, hS', g', kp⟩
    · match r₂, hr₂ with
      | .error e, hr₂ => exact hr₂
      | .ok (.ret r), hr₂ =>
        obtain ⟨rfl, h', tk, L, es, ep, t, rfl, hS', g', hk'⟩ := hr₂
        repeat (any_goals (first | assumption | wp_step))
        exact q _ _ _ _ _ _ hS' g' hk'
end
end Ns

namespace Ns
open PySem PySem.Spec PyProof.Rows L2
open PySem.W (EachIs AllAlike Sortable dataLe)
theorem each_refs {L : List (Addr × PyData)} : ∀ {vs : List Value} {bs : List (Addr × PyData)}, EachIs (fun v p => v = Value.ref p.1) vs bs → vs = bs.map fun p => Value.ref p.1
  | _, _, .nil => rfl
  | _, _, .cons e t => by rw [List.map_cons, ← each_refs (L := L) t, e]
theorem refs_each : ∀ (bs : List (Addr × PyData)), EachIs (fun v p => v = Value.ref p.1) (bs.map fun p => Value.ref p.1) bs
  | [] => .nil
  | _ :: bs => .cons rfl (refs_each bs)
theorem each_of {R : Value → Addr × PyData → Prop} : ∀ (bs : List (Addr × PyData)), (∀ p ∈ bs, R (.ref p.1) p) → EachIs R (bs.map fun p => Value.ref p.1) bs
  | [], _ => .nil
  | b :: bs, h => .cons (h b List.mem_cons_self) (each_of bs fun p m => h p (List.mem_cons_of_mem _ m))
/-- the order of data that sorted goes by -/
abbrev le2 : Addr × PyData → Addr × PyData → Bool := dataLe false (fun p => p.2)
section
variable {P : Program} {w : World} {A : Around} {E : Value → Shared → Prop} {s : Shared}
/-- sorted(set) -/
theorem sorted_set {a : Addr} {L : List (Addr × PyData)} {tk : PyData → NestedKey} {es : Array (Int × Value)} {ep : Nat} {t : SetTable} {Q : Value → Shared → Prop} (R : NSet w s.heap a (L.map fun p => (p.1, tk p.2)) es ep t) (cold : A.handled = none) (hu : A.units + 16 < cLine)
    (rd : ∀ p ∈ L, Reads s.heap (.ref p.1) p.2 []) (al : AllAlike (L.map (·.2))) (so : Sortable (L.map (·.2))) (dep : ∀ p ∈ L, p.2.depth ≤ 8)
    (q : ∀ s' p (out : Array Value) (c : Nat) (L' : List (Addr × PyData)), (∀ b o, s.heap.get? b = some o → s'.heap.get? b = some o) → s'.gens = s.gens → s'.os = s.os → s.heap.objs.size ≤ p →
      s'.heap.get? p = some (seqObj "list" out c) → out.toList = L'.map (fun r => Value.ref r.1) → L'.Perm L → L'.Pairwise (fun x y => le2 x y = true) → Q (.ref p) s') :
    wpAny (model P w) A (call (.builtin "sorted") [.ref a]) Q E s := by
  obtain ⟨o, ho, hex, hd⟩ := R.obj
  have sz := R.size
  have few := R.few
  rw [List.length_map] at sz few
  refine Calls.call_function_entry kind_sorted plain_sorted entry_sorted (args_sorted1 _) ?_
  unfold Builtin.«sorted»
  refine wpAny_bind (m := checkCount "sorted" 1 1 _) (wpAny_pure ?_)
  refine wpAny_bind (collect_set (A := A.in1) cold ⟨o, ho, hex.1, hd⟩ R.fits (by unfold scanBound; omega) R.tab.ris R.led fun s1 vs kp grew g1 o1 pm => ?_)
  have ee : es.toList.map (·.2) = L.map fun r => Value.ref r.1 := by
    rw [R.ents, List.map_map, List.map_map]
    rfl
  obtain ⟨L1, p1, rfl⟩ := perm_back (fun r : Addr × PyData => Value.ref r.1) pm ee
  have len1 : L1.length = L.length := p1.length_eq
  refine wpAny_bind (wpAny_newList ?_ (by rw [List.length_map, sizeLine_eq]; omega))
  have atL : (s1.heap.push (seqObj "list" (L1.map fun r => Value.ref r.1).toArray 0)).get? s1.heap.objs.size = some (seqObj "list" (L1.map fun r => Value.ref r.1).toArray 0) := Heap.get?_push_size _ rfl
  have mem : ∀ d, d ∈ L1.map (·.2) → d ∈ L.map (·.2) := fun d hd => (p1.map (·.2)).mem_iff.mp hd
  refine wpAny_bind (wpAny_holding (PySem.W.list_sort_data (s := { s1 with heap := s1.heap.push (seqObj "list" (L1.map fun r => Value.ref r.1).toArray 0) }) (bs := L1) (enc := fun p => p.2) (R := fun v p => v = Value.ref p.1) atL (refs_each L1)
    (each_of L1 fun p hp => ⟨[], Reads.keeps (fun b u e => Heap.get?_push_of_some _ (kp b u e)) (rd p (p1.mem_iff.mp hp)), List.not_mem_nil⟩)
    (fun d hd d' hd' => al d (mem d hd) d' (mem d' hd')) ?_ (by rw [sizeLine_eq]; omega) (fun b hb => ?_) fun out len each => ?_))
  · rcases so with h | h
    · exact .inl fun d hd => h d (mem d hd)
    · exact .inr fun d hd => h d (mem d hd)
  · have := dep b (p1.mem_iff.mp hb)
    simp only [Around.in1_units]
    omega
  · obtain ⟨c, hc⟩ := sortedHeap_at (vs := L1.map fun r => Value.ref r.1) (out := out.toArray) atL
    have eo := each_refs (L := L) each
    refine wpAny_pure ⟨_, rfl, q _ s1.heap.objs.size out.toArray c (L1.mergeSort le2) (fun b u e => ?_) g1 o1 grew hc (by simpa using eo) ((List.mergeSort_perm L1 _).trans p1) (PySem.W.sort_pairwise (PySem.W.sortLe_total _ _ _) L1)⟩
    have e' := kp b u e
    have lt := Heap.lt_size e'
    show (sortedHeap (s1.heap.push (seqObj "list" (L1.map fun r => Value.ref r.1).toArray 0)) s1.heap.objs.size _ _).get? b = some u
    rw [sortedHeap_old (Nat.ne_of_lt lt) (by rw [size_push']; exact Nat.lt_succ_of_lt lt)]
    exact Heap.get?_push_of_some _ e'
end
end Ns

namespace Ns
open PySem PySem.Spec PyProof.Rows L2
open PySem.W (EachIs AllAlike Sortable dataLe)
mutual
/-- data that may be a key: None, whole numbers, texts, tuples of such -/
def kb : PyData → Bool
  | .none => true
  | .int _ => true
  | .str _ => true
  | .tuple ds => kbAll ds
  | .bool _ => false
  | .list _ => false
  | .dict _ => false
def kbAll : List PyData → Bool
  | [] => true
  | d :: ds => kb d && kbAll ds
end
mutual
def tk : PyData → NestedKey
  | .none => .none
  | .int i => .num i
  | .str x => .text x
  | .tuple ds => .tup (tkAll ds)
  | .bool _ => .none
  | .list _ => .none
  | .dict _ => .none
def tkAll : List PyData → List NestedKey
  | [] => []
  | d :: ds => tk d :: tkAll ds
end
mutual
theorem tk_inj : ∀ (d e : PyData), kb d = true → kb e = true → tk d = tk e → d = e
  | .none, .none, _, _, _ => rfl
  | .int i, .int j, _, _, h => by simp only [tk, NestedKey.num.injEq] at h; rw [h]
  | .str x, .str y, _, _, h => by simp only [tk, NestedKey.text.injEq] at h; rw [h]
  | .tuple ds, .tuple es, h1, h2, h => by
    simp only [tk, NestedKey.tup.injEq] at h
    simp only [kb] at h1 h2
    rw [tkAll_inj ds es h1 h2 h]
  | .none, .int _, _, _, h => by cases h
  | .none, .str _, _, _, h => by cases h
  | .none, .tuple _, _, _, h => by cases h
  | .int _, .none, _, _, h => by cases h
  | .int _, .str _, _, _, h => by cases h
  | .int _, .tuple _, _, _, h => by cases h
  | .str _, .none, _, _, h => by cases h
  | .str _, .int _, _, _, h => by cases h
  | .str _, .tuple _, _, _, h => by cases h
  | .tuple _, .none, _, _, h => by cases h
  | .tuple _, .int _, _, _, h => by cases h
  | .tuple _, .str _, _, _, h => by cases h
  | .bool _, _, h, _, _ => by cases h
  | .list _, _, h, _, _ => by cases h
  | .dict _, _, h, _, _ => by cases h
  | _, .bool _, _, h, _ => by cases h
  | _, .list _, _, h, _ => by cases h
  | _, .dict _, _, h, _ => by cases h
theorem tkAll_inj : ∀ (ds es : List PyData), kbAll ds = true → kbAll es = true → tkAll ds = tkAll es → ds = es
  | [], [], _, _, _ => rfl
  | d :: ds, e :: es, h1, h2, h => by
    simp only [kbAll, Bool.and_eq_true] at h1 h2
    simp only [tkAll, List.cons.injEq] at h
    rw [tk_inj d e h1.1 h2.1 h.1, tkAll_inj ds es h1.2 h2.2 h.2]
  | [], _ :: _, _, _, h => by cases h
  | _ :: _, [], _, _, h => by cases h
end
mutual
theorem tk_depth : ∀ (d : PyData), kb d = true → (tk d).depth = d.depth
  | .none, _ => rfl
  | .int _, _ => rfl
  | .str _, _ => rfl
  | .tuple ds, h => by
    simp only [kb] at h
    simp only [tk, NestedKey.depth, PyData.depth, tkAll_depth ds h]
  | .bool _, h => by cases h
  | .list _, h => by cases h
  | .dict _, h => by cases h
theorem tkAll_depth : ∀ (ds : List PyData), kbAll ds = true → NestedKey.depthAll (tkAll ds) = PyData.depthAll ds
  | [], _ => rfl
  | d :: ds, h => by
    simp only [kbAll, Bool.and_eq_true] at h
    simp only [tkAll, NestedKey.depthAll, PyData.depthAll, tk_depth d h.1, tkAll_depth ds h.2]
end
section
variable {X : Cx} {pins : List (Addr × Obj)} {σ : L2.St} {H : Hp} {s : Shared}
mutual
theorem dp_both (I : Inv X pins σ H s) : ∀ (d : PyData) (v : V) (u : Value), Dp X.K H v d → kb d = true → RelV v u → NestedIs s.heap (tk d) u ∧ Reads s.heap u d []
  | .none, _, _, h, _, r => by
    cases h
    cases r
    exact ⟨.none, .none⟩
  | .int i, _, _, h, _, r => by
    cases h
    obtain ⟨t, rfl⟩ := r
    exact ⟨.int i t, .int i t⟩
  | .str x, _, _, h, _, r => by
    cases h
    obtain ⟨t, rfl⟩ := r
    exact ⟨.text x t, .str x t⟩
  | .tuple ds, _, _, h, k, r => by
    cases h with
    | tup hs ha =>
      cases r
      simp only [kb] at k
      obtain ⟨its, rv, ⟨o, ho, hc, n, hd⟩, _⟩ := I.tuple hs
      obtain ⟨q1, q2⟩ := dp_bothAll I ds _ its ha k rv
      exact ⟨.tup ho hc hd (by simpa using q1), .tuple ho hc hd (by simpa using q2)⟩
  | .bool _, _, _, _, k, _ => by cases k
  | .list _, _, _, _, k, _ => by cases k
  | .dict _, _, _, _, k, _ => by cases k
theorem dp_bothAll (I : Inv X pins σ H s) : ∀ (ds : List PyData) (vs : List V) (us : List Value), DpAll X.K H vs ds → kbAll ds = true → Vals vs us → NestedAll s.heap (tkAll ds) us ∧ ReadsAll s.heap us ds []
  | [], _, _, h, _, r => by
    cases h
    cases r
    exact ⟨.nil, .nil⟩
  | d :: ds, _, _, h, k, r => by
    cases h with
    | cons h1 h2 =>
      cases r with
      | cons r1 r2 =>
        simp only [kbAll, Bool.and_eq_true] at k
        obtain ⟨q1, q2⟩ := dp_both I d _ _ h1 k.1 r1
        obtain ⟨q3, q4⟩ := dp_bothAll I ds _ _ h2 k.2 r2
        exact ⟨.cons q1 q3, .cons q2 q4⟩
end
end
/-- the set at a of the keys at those addresses, but the keys themselves -/
def SetN (w : World) (h : Heap) (a : Addr) (L : List (Addr × PyData)) : Prop := ∃ es ep t, (∃ o, h.get? a = some o ∧ o.ExactSet ∧ o.data = .set es ep t) ∧ (∀ h', (∃ o, h'.get? a = some o ∧ o.ExactSet ∧ o.data = .set es ep t) → (∀ p ∈ L, Key h' (tk p.2) p.1) → NSet w h' a (L.map fun p => (p.1, tk p.2)) es ep t)
def SetNO (w : World) (a : Addr) (L : List (Addr × PyData)) : HO := .ext fun h => SetN w h a L
theorem setN_of {w : World} {h : Heap} {a : Addr} {L : List (Addr × PyData)} {es : Array (Int × Value)} {ep : Nat} {t : SetTable} (R : NSet w h a (L.map fun p => (p.1, tk p.2)) es ep t) : SetN w h a L :=
  ⟨es, ep, t, R.obj, fun h' o k => ⟨o, R.ents, R.tab, R.once, fun p hp => by
    obtain ⟨q, hq, rfl⟩ := List.mem_map.mp hp
    exact k q hq, R.led, R.room, R.few⟩⟩
theorem setNO_ok {P : Program} {w : World} {H : Hp} {h : Heap} {a : Addr} {L : List (Addr × PyData)} (R : SetN w h a L) : ObjOk P w H h a (SetNO w a L) := by
  obtain ⟨es, ep, t, ⟨o, ho, r⟩, q⟩ := id R
  refine ⟨R, ⟨o, ho⟩, fun h1 h2 p k => ?_⟩
  obtain ⟨es', ep', t', ⟨o', ho', r'⟩, q'⟩ := (show SetN w h1 a L from p)
  exact ⟨es', ep', t', ⟨o', k o' ho', r'⟩, q'⟩
theorem refs_of : ∀ {ks : List (Addr × PyData)} {us : List Value}, Vals (ks.map fun p => V.ref p.1) us → us = ks.map fun p => Value.ref p.1
  | [], _, .nil => rfl
  | p :: ks, _, .cons r t => by
    cases r
    rw [refs_of t]
    rfl
theorem vals_refs : ∀ (ks : List (Addr × PyData)), Vals (ks.map fun p => V.ref p.1) (ks.map fun p => Value.ref p.1)
  | [] => .nil
  | p :: ks => .cons rfl (vals_refs ks)
/-- at an address stands the tuple that reads as this, fit for a key -/
def Kp (K : PySem.W.Frag) (H : Hp) (p : Addr × PyData) : Prop := Dp K H (.ref p.1) p.2 ∧ kb p.2 = true ∧ p.2.depth ≤ 8
section
variable {X : Cx}
theorem Kp.key {pins : List (Addr × Obj)} {σ : L2.St} {H : Hp} {s : Shared} (I : Inv X pins σ H s) {p : Addr × PyData} (k : Kp X.K H p) : Key s.heap (tk p.2) p.1 := ⟨(dp_both I _ _ _ k.1 k.2.1 rfl).1, by rw [tk_depth _ k.2.1]; exact k.2.2⟩
/-- set(xs), xs a list of such tuples -/
def rSetN (K : PySem.W.Frag) (w : World) : List V → Hp → VK → Prop := fun xs H Q => ∃ (l : Addr) (ks : List (Addr × PyData)), xs = [V.ref l] ∧ (SqL K H l (ks.map fun p => V.ref p.1) ∨ SqT K H l (ks.map fun p => V.ref p.1)) ∧ (∀ p ∈ ks, Kp K H p) ∧ ks.length < 64 ∧
  ∀ a L, H a = none → (∀ p ∈ L, p ∈ ks) → (∀ p ∈ ks, p.2 ∈ L.map (·.2)) → (L.map (·.2)).Nodup → Q (.ref a) (upd H a (SetNO w a L))
theorem cr_setN (hc : X.calm = true) (hu : X.A.units + 64 < cLine) : CallR X (.type "set") (rSetN X.K X.w) := by
  intro pins s σ H xs us Q I r h
  obtain ⟨l, ks, rfl, hl, hk, few, q⟩ := h
  rw [Vals.ref1 r]
  have hn : H s.heap.objs.size = none := I.hok.fresh (Nat.le_refl _)
  have keys : ∀ p ∈ ks.map (fun p => (p.1, tk p.2)), Key s.heap p.2 p.1 := fun p hp => by
    obtain ⟨z, hz, rfl⟩ := List.mem_map.mp hp
    exact (hk z hz).key I
  have few' : (ks.map fun p => (p.1, tk p.2)).length < 64 := by rw [List.length_map]; exact few
  have fin : ∀ (h' : Heap) (tk' : Nat) L es ep t, NSet X.w h' s.heap.objs.size L es ep t → Came (ks.map fun p => (p.1, tk p.2)) (ks.map fun p => (p.1, tk p.2)).length L → (∀ b o, s.heap.get? b = some o → h'.get? b = some o) →
      EP X pins σ Q (.ref s.heap.objs.size) { s with heap := h', toks := tk' } := fun h' tk' L es ep t R g k => by
    have sub : ∀ p ∈ L, p ∈ ks.map fun p => (p.1, tk p.2) := fun p hp => List.mem_of_mem_take (g.among p hp)
    obtain ⟨L0, in0, e0⟩ : ∃ L0 : List (Addr × PyData), (∀ p ∈ L0, p ∈ ks) ∧ L = L0.map fun p => (p.1, tk p.2) := by
      clear R g
      induction L with
      | nil => exact ⟨[], fun p hp => absurd hp List.not_mem_nil, rfl⟩
      | cons p L ih =>
        obtain ⟨L0, i0, e0⟩ := ih fun u m => sub u (List.mem_cons_of_mem _ m)
        obtain ⟨z, hz, e⟩ := List.mem_map.mp (sub p List.mem_cons_self)
        refine ⟨z :: L0, fun u hu => ?_, by rw [List.map_cons, ← e0, e]⟩
        rcases List.mem_cons.mp hu with y | y
        · rw [y]
          exact hz
        · exact i0 u y
    subst e0
    have nd : (L0.map (·.2)).Nodup := by
      have e := R.once
      rw [List.map_map] at e
      have e' : ((L0.map (·.2)).map tk).Nodup := by rw [List.map_map]; exact e
      exact List.Pairwise.of_map tk (fun _ _ hne z => hne (congrArg tk z)) e'
    refine ⟨.ref s.heap.objs.size, upd H s.heap.objs.size (SetNO X.w s.heap.objs.size L0), I.laid (t' := tk') k (Nat.le_refl _) (setNO_ok (setN_of R)), rfl, q _ L0 hn in0 (fun p hp => ?_) nd⟩
    have ev := g.every (p.1, tk p.2) (by
      rw [show (ks.map fun p => (p.1, tk p.2)).length = (ks.map fun p => (p.1, tk p.2)).length from rfl, List.take_length]
      exact List.mem_map.mpr ⟨p, hp, rfl⟩)
    obtain ⟨z, hz, e⟩ := List.mem_map.mp ev
    obtain ⟨y, hy, rfl⟩ := List.mem_map.mp hz
    have e2 : y.2 = p.2 := tk_inj _ _ (hk y (in0 y hy)).2.1 (hk p hp).2.1 e
    exact List.mem_map.mpr ⟨y, hy, e2⟩
  rcases hl with hl | hl
  · obtain ⟨its, rv, pl, hz⟩ := I.list hl
    exact call_set (P := X.prog) (w := X.w) (ks.map fun p => (p.1, tk p.2)) (I.ok.hd hc) pl.isList (by rw [List.map_map]; exact refs_of rv) keys few' (by omega) fin
  · obtain ⟨its, rv, pl, hz⟩ := I.tuple hl
    exact call_setT (P := X.prog) (w := X.w) (ks.map fun p => (p.1, tk p.2)) (I.ok.hd hc) (show s.heap.IsTuple l its.toArray from pl) (by rw [List.map_map]; exact refs_of rv) keys few' (by omega) fin
/-- sorted(such a set) -/
def rSortedN (K : PySem.W.Frag) (w : World) : List V → Hp → VK → Prop := fun vs H Q => ∃ (a : Addr) (L : List (Addr × PyData)), vs = [V.ref a] ∧ H a = some (SetNO w a L) ∧ (∀ p ∈ L, Kp K H p) ∧ AllAlike (L.map (·.2)) ∧ Sortable (L.map (·.2)) ∧
  ∀ (L' : List (Addr × PyData)) (p : Addr), L'.Perm L → L'.Pairwise (fun x y => le2 x y = true) → L'.length < 64 → H p = none → Q (.ref p) (upd H p (.lst (L'.map fun r => V.ref r.1)))
theorem cr_sortedN (hc : X.calm = true) (hu : X.A.units + 64 < cLine) : CallR X (.builtin "sorted") (rSortedN X.K X.w) := by
  intro pins s σ H vs us Q I r h
  obtain ⟨a, L, rfl, ha, hk, al, so, q⟩ := h
  obtain ⟨es, ep, t, ob, mk⟩ : SetN X.w s.heap a L := (I.hok a _ ha).1
  have R := mk s.heap ob fun p hp => (hk p hp).key I
  rw [Vals.ref1 r]
  refine sorted_set R (I.ok.hd hc) (by omega) (fun p hp => (dp_both I _ _ _ (hk p hp).1 (hk p hp).2.1 rfl).2) al so (fun p hp => (hk p hp).2.2) fun s' p out c L' k g o hp at' hout pm pw => ?_
  have few : L'.length < 64 := by
    have e := R.few
    rw [List.length_map] at e
    rw [pm.length_eq]
    exact e
  have hn : H p = none := I.hok.fresh hp
  have J : Inv X pins σ (upd H p (.lst (L'.map fun r => V.ref r.1))) { s with heap := s'.heap, gens := s'.gens, drawn := s'.drawn, toks := s'.toks } :=
    I.call (ch := []) (Un.laid k hp hn) (I.hok.laid k hp ⟨by rw [List.length_map, sizeLine_eq]; omega, out.toList, c, by rw [hout]; exact vals_refs L', at'⟩) (by rw [g]; exact I.bare) (fun _ z => nomatch z)
  have e : s' = { s with heap := s'.heap, gens := s'.gens, drawn := s'.drawn, toks := s'.toks } := by
    obtain ⟨a1, a2, a3, a4, a5⟩ := s'
    obtain rfl : a5 = s.os := o
    rfl
  rw [e]
  exact ⟨.ref p, _, J, rfl, q L' p pm pw few hn⟩
end
end Ns

namespace Gy
open PySem L2 PySem.Spec PyProof.Rows
/-! ### data of tuples alone -/
def Tups (H H' : Hp) : Prop := ∀ a xs, H a = some (.tup xs) → H' a = some (.tup xs)
theorem Tups.refl (H : Hp) : Tups H H := fun _ _ h => h
theorem Tups.trans {H1 H2 H3 : Hp} (h : Tups H1 H2) (h' : Tups H2 H3) : Tups H1 H3 := fun a xs e => h' a xs (h a xs e)
theorem Tups.same {H H' : Hp} (s : Same H H') : Tups H H' := fun a xs e => s a _ e
theorem Tups.ext {b : Addr} {H H' : Hp} {l : List V} (hb : H b = some (.lst l)) (e : Ext b H H') : Tups H H' := fun a xs h => e a _ (fun z => by rw [z, hb] at h; cases h) h
theorem Tups.put {H : Hp} {p : Addr} {o : HO} {l : List V} (hp : H p = some (.lst l)) : Tups H (upd H p o) := fun a xs h => by
  rw [upd_ne (fun z => by rw [z, hp] at h; cases h)]
  exact h
theorem Ext.trans' {b : Addr} {H H1 H2 : Hp} (e : Ext b H H1) (e' : Ext b H1 H2) : Ext b H H2 := fun a o n h => e' a o n (e a o n h)
theorem Ext.refl' (b : Addr) (H : Hp) : Ext b H H := fun _ _ _ h => h
theorem BagC.lst {c b : Addr} {H : Hp} (h : BagC c H b) : ∃ l, H b = some (.lst l) := by
  obtain ⟨x0, x1, x2, ns, h⟩ := h
  exact ⟨_, h.hb⟩
/-- where the bag stands, a new address is new -/
theorem Ext.dom' {b c : Addr} {B H : Hp} (e : Ext b B H) (B' : BagC c H b) (a : Addr) (n : H a = none) : B a = none := by
  cases q : B a with
  | none => rfl
  | some o =>
    by_cases z : a = b
    · obtain ⟨u, hu⟩ := B'.lst
      rw [z, hu] at n
      cases n
    · rw [e a o z q] at n
      cases n
theorem BagC.tups {c b : Addr} {H H' : Hp} (h : BagC c H b) (e : Ext b H H') : Tups H H' := let ⟨_, hb⟩ := h.lst; .ext hb e
mutual
def D.flat : D → Bool
  | .non => true
  | .bl _ => true
  | .int _ => true
  | .str _ => true
  | .tup ds => D.flatAll ds
  | .lst _ => false
  | .dic _ _ => false
  | .exc _ _ => false
def D.flatAll : List D → Bool
  | [] => true
  | d :: ds => d.flat && D.flatAll ds
end
mutual
theorem Rp.tups {K : PySem.W.Frag} {H H' : Hp} (s : Tups H H') : ∀ {v : V} {d : D}, Rp K H v d → d.flat = true → Rp K H' v d
  | _, _, .non, _ => .non
  | _, _, .bl b, _ => .bl b
  | _, _, .int i, _ => .int i
  | _, _, .str x, _ => .str x
  | _, _, .tup e r, h => .tup (s _ _ e) (RpAll.tups s r (by simpa only [D.flat] using h))
  | _, _, .lst _ _, h => by cases h
  | _, _, .dic _ _ _, h => by cases h
  | _, _, .exc _ _ _ _ _ _, h => by cases h
theorem RpAll.tups {K : PySem.W.Frag} {H H' : Hp} (s : Tups H H') : ∀ {vs : List V} {ds : List D}, RpAll K H vs ds → D.flatAll ds = true → RpAll K H' vs ds
  | _, _, .nil, _ => .nil
  | _, _, .cons r rs, h => by
    simp only [D.flatAll, Bool.and_eq_true] at h
    exact .cons (Rp.tups s r h.1) (RpAll.tups s rs h.2)
end
mutual
/-- as the library's data -/
def D.py : D → PyData
  | .non => .none
  | .bl b => .bool b
  | .int i => .int i
  | .str x => .str x
  | .tup ds => .tuple (D.pyAll ds)
  | .lst ds => .list (D.pyAll ds)
  | .dic _ _ => .none
  | .exc _ _ => .none
def D.pyAll : List D → List PyData
  | [] => []
  | d :: ds => d.py :: D.pyAll ds
end
mutual
def D.plain : D → Bool
  | .non => true
  | .bl _ => true
  | .int _ => true
  | .str _ => true
  | .tup ds => D.plainAll ds
  | .lst ds => D.plainAll ds
  | .dic _ _ => false
  | .exc _ _ => false
def D.plainAll : List D → Bool
  | [] => true
  | d :: ds => d.plain && D.plainAll ds
end
mutual
theorem Rp.dp {K : PySem.W.Frag} {H : Hp} : ∀ {v : V} {d : D}, Rp K H v d → d.plain = true → Dp K H v d.py
  | _, _, .non, _ => .non
  | _, _, .bl b, _ => .bl b
  | _, _, .int i, _ => .int i
  | _, _, .str x, _ => .str x
  | _, _, .tup e r, h => .tup (SqT.of e) (RpAll.dp r (by simpa only [D.plain] using h))
  | _, _, .lst e r, h => .lst (SqL.of e) (RpAll.dp r (by simpa only [D.plain] using h))
  | _, _, .dic _ _ _, h => by cases h
  | _, _, .exc _ _ _ _ _ _, h => by cases h
theorem RpAll.dp {K : PySem.W.Frag} {H : Hp} : ∀ {vs : List V} {ds : List D}, RpAll K H vs ds → D.plainAll ds = true → DpAll K H vs (D.pyAll ds)
  | _, _, .nil, _ => .nil
  | _, _, .cons r rs, h => by
    simp only [D.plainAll, Bool.and_eq_true] at h
    exact .cons (Rp.dp r h.1) (RpAll.dp rs h.2)
end
mutual
theorem flat_plain : ∀ (d : D), d.flat = true → d.plain = true
  | .non, _ => rfl
  | .bl _, _ => rfl
  | .int _, _ => rfl
  | .str _, _ => rfl
  | .tup ds, h => by simp only [D.flat] at h; simp only [D.plain, flat_plainAll ds h]
  | .lst _, h => by cases h
  | .dic _ _, h => by cases h
  | .exc _ _, h => by cases h
theorem flat_plainAll : ∀ (ds : List D), D.flatAll ds = true → D.plainAll ds = true
  | [], _ => rfl
  | d :: ds, h => by
    simp only [D.flatAll, Bool.and_eq_true] at h
    simp only [D.plainAll, flat_plain d h.1, flat_plainAll ds h.2, Bool.and_self]
end
/-! ### over a list or a tuple -/
section
variable {X : Cx} {tg : Expr}
def iSeq (K : PySem.W.Frag) (tl : TE) : TI := fun σ H R => tl σ H fun x H1 => ∃ a, x = .ref a ∧ (((∃ xs, SqL K H1 a xs) ∧ R (Itl K a) H1) ∨ ((∃ xs, SqT K H1 a xs) ∧ R (Itt K a) H1))
theorem pi_seq {l : Expr} {tl : TE} (hl : PE X l tl) : PI X tg l (iSeq X.K tl) := by
  refine ⟨fun pins s σ H R I h => thn (hl.run pins s σ H _ I h) fun v s1 z => ?_⟩
  obtain ⟨x, H1, I1, r1, a, rfl, q⟩ := z
  cases r1
  have ok : ∀ b ∈ [s1.heap.objs.size], FpOk X pins H1 b := fun b hb => by
    rw [List.mem_singleton.mp hb]
    exact I1.fpOk (Nat.le_refl _) (I1.hok.fresh (Nat.le_refl _))
  rcases q with ⟨⟨xs, hq⟩, q⟩ | ⟨⟨xs, hq⟩, q⟩
  · obtain ⟨its, rv, p, hz⟩ := I1.list hq
    exact wpAny_pyIter_list p.isList ⟨_, [_], _, _, H1, rfl, I1.kept (t' := s1.toks) fun b o e => Heap.get?_push_of_some _ e, turn_list a _, ⟨_, Heap.get?_push_size _ rfl, rfl, rfl⟩, ok, q⟩
  · obtain ⟨its, rv, p, hz⟩ := I1.tuple hq
    exact wpAny_pyIter_tuple (show s1.heap.IsTuple a its.toArray from p) ⟨_, [_], _, _, H1, rfl, I1.kept (t' := s1.toks) fun b o e => Heap.get?_push_of_some _ e, turn_tuple a _, ⟨_, Heap.get?_push_size _ rfl, rfl, rfl⟩, ok, q⟩
end
theorem for_seq {K : PySem.W.Frag} {a : Addr} {xs : List V} {g : TG} {tb : TS} {D : Ends} {σ : L2.St} {H : Hp} (Pv : Nat → L2.St → Hp → Prop) (h0 : Pv 0 σ H) (hk : (∀ i σ H, Pv i σ H → H a = some (.lst xs)) ∨ (∀ i σ H, Pv i σ H → H a = some (.tup xs)))
    (hb : ∀ i x σ H, xs[i]? = some x → Pv i σ H → g x σ H fun σ2 H2 => tb { D with nx := Pv (i + 1), ct := Pv (i + 1), bk := D.nx } σ2 H2) (hd : ∀ σ H, Pv xs.length σ H → D.nx σ H) :
    ((∃ xs, SqL K H a xs) ∧ ∃ W : Nat → Nat → L2.St → Hp → Prop, (∃ m, W 0 m σ H) ∧ ∀ i m σ H, W i m σ H →
      ((Itl K a).stop i H ∧ D.nx σ H) ∨ ((Itl K a).go i H ∧ ∃ N : L2.St → Hp → Prop, (∀ σ' H', N σ' H' → ∃ m', m' < m ∧ W (i + 1) m' σ' H') ∧ ∀ x H', (Itl K a).yld i H x H' → g x σ H' fun σ2 H2 => tb { D with nx := N, ct := N, bk := D.nx } σ2 H2)) ∨
    ((∃ xs, SqT K H a xs) ∧ ∃ W : Nat → Nat → L2.St → Hp → Prop, (∃ m, W 0 m σ H) ∧ ∀ i m σ H, W i m σ H →
      ((Itt K a).stop i H ∧ D.nx σ H) ∨ ((Itt K a).go i H ∧ ∃ N : L2.St → Hp → Prop, (∀ σ' H', N σ' H' → ∃ m', m' < m ∧ W (i + 1) m' σ' H') ∧ ∀ x H', (Itt K a).yld i H x H' → g x σ H' fun σ2 H2 => tb { D with nx := N, ct := N, bk := D.nx } σ2 H2)) := by
  rcases hk with h | h
  · exact .inl ⟨⟨_, SqL.of (h 0 σ H h0)⟩, for_list Pv h0 (fun i σ H _ p => SqL.of (h i σ H p)) hb hd⟩
  · exact .inr ⟨⟨_, SqT.of (h 0 σ H h0)⟩, for_tup Pv h0 (fun i σ H _ p => SqT.of (h i σ H p)) hb hd⟩
end Gy

namespace Gy
open PySem L2 PySem.Spec PyProof.Rows
abbrev sMixed : Stmt := top 35
/-- a new list of the same things, in some order -/
def spMixed : Sp := fun vs H Q _ => ∃ (b c a : Addr) (xs : List V), vs = [.ref b, .ref a] ∧ a ≠ b ∧ SqQ H a xs ∧ xs.length ≤ 1000 ∧ BagC c H b ∧
  ∀ (p : Addr) (H' : Hp) (ys : List V), Ext b H H' → BagC c H' b → H p = none → H' p = some (.lst ys) → ys.Perm xs → Q (.ref p) H'
theorem ext_put {b p : Addr} {H H' : Hp} {o : HO} (e : Ext b H H') (hp : H p = none) : Ext b H (upd H' p o) := fun a u h g => by
  rw [upd_ne (ne_of_none g hp)]
  exact e a u h g
theorem ext_new {b p : Addr} {H H' : Hp} {o : HO} (e : Ext b H H') (hp : H' p = none) : Ext b H (upd H' p o) := fun a u h g => by
  have g' := e a u h g
  rw [upd_ne (ne_of_none g' hp)]
  exact g'
theorem BagC.put {b c a : Addr} {H : Hp} {o : HO} (h : BagC c H b) (h1 : a ≠ b) (h2 : a ≠ c) : BagC c (upd H a o) b := by
  obtain ⟨x0, x1, x2, ns, h⟩ := h
  exact ⟨x0, x1, x2, ns, by rw [upd_ne (Ne.symm h1)]; exact h.hb, by rw [upd_ne (Ne.symm h2)]; exact h.hc, h.p0, h.p1, h.q1, h.p2, h.pc, h.lc⟩
theorem BagC.hbs {b c : Addr} {H : Hp} (h : BagC c H b) : ∃ o, H b = Option.some o := by
  obtain ⟨x0, x1, x2, ns, h⟩ := h
  exact ⟨_, h.hb⟩
theorem BagC.hcs {b c : Addr} {H : Hp} (h : BagC c H b) : ∃ o, H c = Option.some o := by
  obtain ⟨x0, x1, x2, ns, h⟩ := h
  exact ⟨_, h.hc⟩
theorem ne_at {H : Hp} {x y : Addr} (h : H x = none) (h' : ∃ o, H y = some o) : x ≠ y := fun z => by
  obtain ⟨o, h'⟩ := h'
  rw [z, h'] at h
  cases h
theorem ins_perm {α : Type} (l : List α) (p : Nat) (x : α) : (l.take p ++ [x] ++ l.drop p).Perm (l ++ [x]) := by
  have h : (l.take p ++ ([x] ++ l.drop p)).Perm (l.take p ++ (l.drop p ++ [x])) := List.Perm.append_left _ List.perm_append_comm
  rw [← List.append_assoc, ← List.append_assoc, List.take_append_drop] at h
  exact h
section
variable {P : Program} {w : World} {K : PySem.W.Frag} {mg : Str → Option Value} {base : Heap}
theorem scMixed : FnScope ["_law_bag_here", "_law_things", "_law_found", "_law_thing"] ["_law_bag_here", "_law_things"] (defScope sMixed) := ⟨rfl, rfl, rfl, by decide +kernel, rfl, by decide +kernel, by decide +kernel⟩
theorem ok_mixed {f fT : Addr} {fd fdT : FuncData} (F : Fun K "_law_mixed" "_law_mixed" sMixed f fd) (T : TxtB K mg fT) (FT : Fun K "_law_take" "_law_take" sTake fT fdT) (bT : L2.Binds K fdT ["_law_bag_here", "_law_upto"] []) :
    FnOk P w K mg base CX0 2 f fd ["_law_bag_here", "_law_things"] spMixed := by
  have GT : FnOk P w K mg base CX0 1 fT fdT ["_law_bag_here", "_law_upto"] spTake := ok_take FT T.a
  refine F.ok scMixed (fun vs H Q E h => ?_) (fun cdv A outer s H vs Q E hr h => ?_)
  · obtain ⟨b, c, a, xs, rfl, _⟩ := h
    rfl
  · obtain ⟨b, c, a, xs, rfl, nab, hs, hx, B, k⟩ := h
    have nd := scMixed.nd
    refine ⟨_, pss_cons (ps_set (i := 2) nd rfl (Or.inl rfl) (pe_lst pa_nil))
      (pss_cons (ps_for PassesOwn.never rfl (pi_seq (pv 1)) (pg_name (i := 3) nd rfl (Or.inl rfl))
        (pss_one (ps_expr (by exact (pe_bm PySem.F.plainAttrs_list PySem.F.slot_list_insert PySem.F.type_list_insert mt_insert (pv 2)
          (pa_cons (pe_call GT hr rfl T.gT T.kT bT .nil pass0 (pa_cons (pv 0) (pa_cons (pe_op op_add (pe_callB call_len_seq (by rfl) T.a.len PySem.boot_len (pa_cons (pv 2) pa_nil)) pe_int) pa_nil))) (pa_cons (pv 3) pa_nil)))))))
      (pss_one (ps_ret (pv 2)))), ?_⟩
    refine ⟨Nat.zero_le _, fun p np => ?_⟩
    have nbp : p ≠ b := ne_at np B.hbs
    have ncp : p ≠ c := ne_at np B.hcs
    have nap : a ≠ p := fun z => by
      rcases hs with h | h <;> (rw [z, np] at h; cases h)
    refine ⟨_, rfl, a, rfl, for_seq (xs := xs) (fun i σ' H' => (∃ x, σ' = [some (.ref b), some (.ref a), some (.ref p), x]) ∧ Ext b H H' ∧ BagC c H' b ∧ (∀ o, H a = some o → H' a = some o) ∧ ∃ ys, H' p = some (.lst ys) ∧ ys.Perm (xs.take i))
      ⟨⟨none, rfl⟩, ext_put (fun _ _ _ h => h) np, B.put nbp ncp, fun o h => by rw [upd_ne nap]; exact h, [], upd_same, by simp⟩ ?_ ?_ ?_⟩
    · rcases hs with h | h
      · exact .inl fun i σ H' z => z.2.2.2.1 _ h
      · exact .inr fun i σ H' z => z.2.2.2.1 _ h
    · rintro i x σ' H' hi ⟨⟨x3, rfl⟩, e, B', ka, ys, hy, pm⟩
      have il : i < xs.length := (List.getElem?_eq_some_iff.mp hi).1
      have yl : ys.length ≤ 1000 := by rw [pm.length_eq, List.length_take]; omega
      refine ⟨_, rfl, .inl ⟨rfl, _, SqL.of hy⟩, _, rfl, _, rfl, p, ys, rfl, .inl (SqL.of hy), ys.length, 1, rfl, rfl, b, c, _, rfl, by omega, by omega, B', fun r H2 r0 r1 e2 B2 => ⟨_, rfl, p, ys, r, x, rfl, rfl, ?_, by rw [sizeLine_eq]; omega, r0, by omega, ?_⟩⟩
      · exact e2 p _ nbp hy
      · refine ⟨⟨_, rfl⟩, ?_, B2.put nbp ncp, fun o h => ?_, _, upd_same, (ins_perm ys r.toNat x).trans ?_⟩
        · exact ext_put (e.trans' e2) np
        · rw [upd_ne nap]
          exact e2 a o nab (ka o h)
        · rw [List.take_succ, hi]
          exact pm.append_right _
    · rintro σ' H' ⟨⟨x3, rfl⟩, e, B', ka, ys, hy, pm⟩
      rw [List.take_length] at pm
      exact ⟨_, rfl, k p H' ys e B' np hy pm⟩
end
end Gy

namespace Gy
open PySem L2 PySem.Spec PyProof.Rows
abbrev sNamed : Stmt := top 36
/-- the names that are drawn from -/
def menu : List Str := ["a", "b", "c", "p", "q", "r", "ab", "ba", "zz", "abcdefgh", "row", "kind", "tell", "ever", "z"]
theorem menu_nodup : menu.Nodup := by decide +kernel
/-- so many names, ascending -/
structure Names (ns : List Str) (m : Nat) : Prop where
  len : ns.length = min m 15
  nd : ns.Nodup
  asc : sortedS ns = true
  mem : ∀ x ∈ ns, x ∈ menu
theorem cut_take (xs : List V) (m : Nat) : cutV xs none (some (m : Int)) = xs.take m := by
  unfold cutV
  rw [show HT.sIx xs.length 0 none = 0 from rfl, HT.sIx_nat, List.drop_zero, Nat.sub_zero]
  rcases Nat.le_total m xs.length with h | h
  · rw [Nat.min_eq_left h]
  · rw [Nat.min_eq_right h, List.take_length, List.take_of_length_le h]
theorem rp_strs {K : PySem.W.Frag} {H : Hp} : ∀ {ss : List Str} {xs : List V}, RpAll K H xs (ss.map D.str) → xs = ss.map V.str
  | [], _, .nil => rfl
  | s :: ss, _, .cons r rs => by
    cases r
    rw [rp_strs rs]
    rfl
theorem litMenu : Lit (valOf (bodyAt sNamed 0)) (.lst (menu.map D.str)) := by
  refine Lit.lst ?_ (Nat.le_of_ble_eq_true rfl)
  exact .cons .str (.cons .str (.cons .str (.cons .str (.cons .str (.cons .str (.cons .str (.cons .str (.cons .str (.cons .str (.cons .str (.cons .str (.cons .str (.cons .str (.cons .str .nil))))))))))))))
def spNamed : Sp := fun vs H Q _ => ∃ (b c : Addr) (m : Nat), vs = [.ref b, .int m] ∧ BagC c H b ∧
  ∀ (p : Addr) (H' : Hp) (ns : List Str), Ext b H H' → BagC c H' b → H p = none → H' p = some (.tup (ns.map V.str)) → Names ns m → Q (.ref p) H'
structure TxtN (K : PySem.W.Frag) (mg : Str → Option Value) (fT fM : Addr) (fdM : FuncData) : Prop where
  b : TxtB K mg fT
  gM : mg "_law_mixed" = some (.ref fM)
  bM : L2.Binds K fdM ["_law_bag_here", "_law_things"] []
  kM : PySem.W.keepIn K (.ref fM) = true
  tup : mg "tuple" = none
  srt : mg "sorted" = none
section
variable {P : Program} {w : World} {K : PySem.W.Frag} {mg : Str → Option Value} {base : Heap}
theorem scNamed : FnScope ["_law_bag_here", "_law_many", "_law_names"] ["_law_bag_here", "_law_many"] (defScope sNamed) := ⟨rfl, rfl, rfl, by decide +kernel, rfl, by decide +kernel, by decide +kernel⟩
theorem ok_named {f fT fM : Addr} {fd fdM : FuncData} (F : Fun K "_law_named" "_law_named" sNamed f fd) (T : TxtN K mg fT fM fdM) (GM : FnOk P w K mg base CX0 2 fM fdM ["_law_bag_here", "_law_things"] spMixed) :
    FnOk P w K mg base CX0 3 f fd ["_law_bag_here", "_law_many"] spNamed := by
  refine F.ok scNamed (fun vs H Q E h => ?_) (fun cdv A outer s H vs Q E hr h => ?_)
  · obtain ⟨b, c, m, rfl, _⟩ := h
    rfl
  · obtain ⟨b, c, m, rfl, B, k⟩ := h
    have nd := scNamed.nd
    refine ⟨_, pss_cons (ps_set (i := 2) nd rfl (Or.inl rfl) (pe_lit lit_star litMenu))
      (pss_one (ps_ret (pe_tupleOf (by rfl) T.tup (pe_callB cr_sortedS (by rfl) T.srt (by decide +kernel) (pa_cons (pe_slice sl_list (pe_call GM hr rfl T.gM T.kM T.bM .nil pass0 (pa_cons (pv 0) (pa_cons (pv 2) pa_nil))) po_none (po_some (pv 1))) pa_nil))))), ?_⟩
    intro v0 H1 s1 o1
    obtain ⟨a, xs, rfl, na, ea, wa⟩ := o1.lst_inv
    have ex : xs = menu.map V.str := rp_strs (wa H1 (Keeps.refl _ _))
    have nab : a ≠ b := ne_at na B.hbs
    refine ⟨_, rfl, _, rfl, b, c, a, xs, rfl, nab, .inl ea, by rw [ex, List.length_map]; decide, B.same s1, fun p H2 ys e2 B2 np hp pm => ?_⟩
    obtain ⟨zs, pz, rfl⟩ := Ns.perm_back V.str pm ex
    have lz : zs.length = 15 := pz.length_eq
    refine ⟨_, rfl, m, rfl, p, zs.map V.str, rfl, SqL.of hp, fun q nq => ?_⟩
    rw [cut_take, ← List.map_take]
    have l63 : (zs.take m).length < 64 := by rw [List.length_take]; omega
    have s3 : Same H2 (upd H2 q (.lst ((zs.take m).map V.str))) := same_new (Same.refl H2) nq
    have e3 : upd H2 q (.lst ((zs.take m).map V.str)) q = some (.lst ((zs.take m).map V.str)) := upd_same
    generalize upd H2 q (.lst ((zs.take m).map V.str)) = H3 at s3 e3
    refine ⟨q, zs.take m, rfl, SqL.of e3, l63, fun ws r pw sw nr => .inl ⟨r, _, rfl, SqL.of upd_same, fun t nt => ?_⟩⟩
    have s4 : Same H3 (upd H3 r (.lst (ws.map V.str))) := same_new (Same.refl H3) nr
    generalize upd H3 r (.lst (ws.map V.str)) = H4 at s4 nt
    have s5 : Same H4 (upd H4 t (.tup (ws.map V.str))) := same_new (Same.refl H4) nt
    have s24 := s3.trans s4
    have E4 : Ext b H H4 := ((ext_same s1).trans' e2).trans' (ext_same s24)
    refine k t _ ws (E4.trans' (ext_same s5)) (B2.same (s24.trans s5)) (E4.dom' (B2.same s24) t nt) upd_same ⟨by rw [pw.length_eq, List.length_take, lz], pw.nodup_iff.mpr ((pz.nodup_iff.mpr menu_nodup).sublist (List.take_sublist _ _)), sw, fun x hx => pz.mem_iff.mp (List.mem_of_mem_take (pw.mem_iff.mp hx))⟩
end
end Gy

namespace Gy
open PySem L2 PySem.Spec PyProof.Rows
open PySem.W (AllAlike Sortable dataLe alike alikeAll)
mutual
/-- data fit for a key: no truths -/
def D.key : D → Bool
  | .non => true
  | .int _ => true
  | .str _ => true
  | .tup ds => D.keyAll ds
  | .bl _ => false
  | .lst _ => false
  | .dic _ _ => false
  | .exc _ _ => false
def D.keyAll : List D → Bool
  | [] => true
  | d :: ds => d.key && D.keyAll ds
end
mutual
theorem key_kb : ∀ d : D, d.key = true → Ns.kb d.py = true ∧ d.flat = true ∧ d.py.depth = d.depth
  | .non, _ => ⟨rfl, rfl, rfl⟩
  | .int _, _ => ⟨rfl, rfl, rfl⟩
  | .str _, _ => ⟨rfl, rfl, rfl⟩
  | .tup ds, h => by
    simp only [D.key] at h
    obtain ⟨h1, h2, h3⟩ := key_kbAll ds h
    exact ⟨by simp only [D.py, Ns.kb, h1], by simp only [D.flat, h2], by simp only [D.py, PyData.depth, D.depth, h3]⟩
  | .bl _, h => by cases h
  | .lst _, h => by cases h
  | .dic _ _, h => by cases h
  | .exc _ _, h => by cases h
theorem key_kbAll : ∀ ds : List D, D.keyAll ds = true → Ns.kbAll (D.pyAll ds) = true ∧ D.flatAll ds = true ∧ PyData.depthAll (D.pyAll ds) = D.depthAll ds
  | [], _ => ⟨rfl, rfl, rfl⟩
  | d :: ds, h => by
    simp only [D.keyAll, Bool.and_eq_true] at h
    obtain ⟨h1, h2, h3⟩ := key_kb d h.1
    obtain ⟨g1, g2, g3⟩ := key_kbAll ds h.2
    exact ⟨by simp only [D.pyAll, Ns.kbAll, h1, g1, Bool.and_self], by simp only [D.flatAll, h2, g2, Bool.and_self], by simp only [D.pyAll, PyData.depthAll, D.depthAll, h3, g3]⟩
end
mutual
theorem py_inj : ∀ d e : D, d.key = true → e.key = true → d.py = e.py → d = e
  | .non, .non, _, _, _ => rfl
  | .int _, .int _, _, _, h => by simp only [D.py, PyData.int.injEq] at h; rw [h]
  | .str _, .str _, _, _, h => by simp only [D.py, PyData.str.injEq] at h; rw [h]
  | .tup ds, .tup es, h1, h2, h => by
    simp only [D.py, PyData.tuple.injEq] at h
    simp only [D.key] at h1 h2
    rw [py_injAll ds es h1 h2 h]
  | .non, .int _, _, _, h => by cases h
  | .non, .str _, _, _, h => by cases h
  | .non, .tup _, _, _, h => by cases h
  | .int _, .non, _, _, h => by cases h
  | .int _, .str _, _, _, h => by cases h
  | .int _, .tup _, _, _, h => by cases h
  | .str _, .non, _, _, h => by cases h
  | .str _, .int _, _, _, h => by cases h
  | .str _, .tup _, _, _, h => by cases h
  | .tup _, .non, _, _, h => by cases h
  | .tup _, .int _, _, _, h => by cases h
  | .tup _, .str _, _, _, h => by cases h
  | .bl _, _, h, _, _ => by cases h
  | .lst _, _, h, _, _ => by cases h
  | .dic _ _, _, h, _, _ => by cases h
  | .exc _ _, _, h, _, _ => by cases h
  | _, .bl _, _, h, _ => by cases h
  | _, .lst _, _, h, _ => by cases h
  | _, .dic _ _, _, h, _ => by cases h
  | _, .exc _ _, _, h, _ => by cases h
theorem py_injAll : ∀ ds es : List D, D.keyAll ds = true → D.keyAll es = true → D.pyAll ds = D.pyAll es → ds = es
  | [], [], _, _, _ => rfl
  | d :: ds, e :: es, h1, h2, h => by
    simp only [D.keyAll, Bool.and_eq_true] at h1 h2
    simp only [D.pyAll, List.cons.injEq] at h
    rw [py_inj d e h1.1 h2.1 h.1, py_injAll ds es h1.2 h2.2 h.2]
  | [], _ :: _, _, _, h => by cases h
  | _ :: _, [], _, _, h => by cases h
end
/-- the order that sorted goes by -/
abbrev leD : D → D → Bool := dataLe false D.py
/-- es: ds, alike ones once, ascending -/
structure Once (ds es : List D) : Prop where
  sub : ∀ d ∈ es, d ∈ ds
  all : ∀ d ∈ ds, d ∈ es
  nd : es.Nodup
  asc : es.Pairwise fun x y => leD x y = true
  len : es.length < 64
/-- tuples that can be in a set and sorted -/
structure Fit (ds : List D) : Prop where
  key : ∀ d ∈ ds, d.key = true
  dep : ∀ d ∈ ds, d.depth ≤ 8
  tup : ∀ d ∈ ds, ∃ x r, d = .tup (x :: r)
  al : ∀ d ∈ ds, ∀ e ∈ ds, alike d.py e.py = true
  len : ds.length < 64
theorem rp_tups {K : PySem.W.Frag} {H : Hp} : ∀ {vs : List V} {ds : List D}, RpAll K H vs ds → (∀ d ∈ ds, ∃ x r, d = .tup (x :: r)) → ∃ ks : List (Addr × D), vs = ks.map (fun p => V.ref p.1) ∧ ks.map (·.2) = ds ∧ ∀ p ∈ ks, Rp K H (.ref p.1) p.2
  | _, _, .nil, _ => ⟨[], rfl, rfl, fun p m => absurd m List.not_mem_nil⟩
  | _, d :: ds, .cons r rs, h => by
    obtain ⟨ks, e1, e2, e3⟩ := rp_tups rs fun d m => h d (List.mem_cons_of_mem _ m)
    obtain ⟨x, q, rfl⟩ := h d List.mem_cons_self
    cases r with
    | @tup a xs _ e r' =>
      refine ⟨(a, .tup (x :: q)) :: ks, by rw [List.map_cons, e1], by rw [List.map_cons, e2], fun p m => ?_⟩
      rcases List.mem_cons.mp m with z | z
      · rw [z]
        exact .tup e r'
      · exact e3 p z
theorem back_map {α β : Type} (f : α → β) {ks : List α} : ∀ {L : List β}, (∀ p ∈ L, p ∈ ks.map f) → ∃ L0 : List α, (∀ p ∈ L0, p ∈ ks) ∧ L = L0.map f
  | [], _ => ⟨[], fun p m => absurd m List.not_mem_nil, rfl⟩
  | p :: L, h => by
    obtain ⟨L0, i0, e0⟩ := back_map f (L := L) fun u m => h u (List.mem_cons_of_mem _ m)
    obtain ⟨z, hz, e⟩ := List.mem_map.mp (h p List.mem_cons_self)
    refine ⟨z :: L0, fun u hu => ?_, by rw [List.map_cons, ← e0, e]⟩
    rcases List.mem_cons.mp hu with y | y
    · rw [y]
      exact hz
    · exact i0 u y
theorem rp_of_refs {K : PySem.W.Frag} {H : Hp} : ∀ {ks : List (Addr × D)}, (∀ p ∈ ks, Rp K H (.ref p.1) p.2) → RpAll K H (ks.map fun p => V.ref p.1) (ks.map (·.2))
  | [], _ => .nil
  | p :: ks, h => .cons (h p List.mem_cons_self) (rp_of_refs fun q m => h q (List.mem_cons_of_mem _ m))
def toP (p : Addr × D) : Addr × PyData := (p.1, p.2.py)
/-- tuple(sorted(set(x))) -/
abbrev tOnce (K : PySem.W.Frag) (w : World) (te : TE) : TE := tThen (tCB (Ns.rSortedN K w) (tCons (tCB (Ns.rSetN K w) (tCons te tNil)) tNil)) (kTup K)
theorem kp_of {K : PySem.W.Frag} {H : Hp} {p : Addr × D} (r : Rp K H (.ref p.1) p.2) (hk : p.2.key = true) (hd : p.2.depth ≤ 8) : Ns.Kp K H (toP p) := by
  obtain ⟨h1, h2, h3⟩ := key_kb p.2 hk
  exact ⟨r.dp (flat_plain _ h2), h1, by show p.2.py.depth ≤ 8; rw [h3]; exact hd⟩
theorem once_go {K : PySem.W.Frag} {w : World} {H : Hp} {l : Addr} {vs : List V} {ds : List D} {Q : VK} (hl : SqQ H l vs) (r : RpAll K H vs ds) (f : Fit ds)
    (k : ∀ p H' vs' es, Same H H' → H p = none → H' p = some (.tup vs') → RpAll K H' vs' es → Once ds es → Q (.ref p) H') :
    Ns.rSetN K w [.ref l] H fun y H1 => Ns.rSortedN K w [y] H1 fun z H2 => kTup K z H2 Q := by
  obtain ⟨ks, e1, e2, e3⟩ := rp_tups r f.tup
  have mem : ∀ p ∈ ks, p.2 ∈ ds := fun p hp => by rw [← e2]; exact List.mem_map_of_mem hp
  have lk : ks.length < 64 := by
    have e := congrArg List.length e2
    rw [List.length_map] at e
    rw [e]
    exact f.len
  refine ⟨l, ks.map toP, rfl, ?_, fun p hp => ?_, by rw [List.length_map]; exact lk, fun a L na sub all nd => ?_⟩
  · rw [List.map_map]
    rw [e1] at hl
    exact hl.seq
  · obtain ⟨z, hz, rfl⟩ := List.mem_map.mp hp
    exact kp_of (e3 z hz) (f.key _ (mem z hz)) (f.dep _ (mem z hz))
  obtain ⟨L0, in0, rfl⟩ := back_map toP sub
  have s1 : Same H (upd H a (Ns.SetNO w a (L0.map toP))) := same_new (Same.refl H) na
  have h1 : upd H a (Ns.SetNO w a (L0.map toP)) a = some (Ns.SetNO w a (L0.map toP)) := upd_same
  generalize upd H a (Ns.SetNO w a (L0.map toP)) = H1 at s1 h1
  have snd : ∀ d ∈ (L0.map toP).map (·.2), ∃ e ∈ ds, d = e.py := fun d hd => by
    rw [List.map_map] at hd
    obtain ⟨z, hz, rfl⟩ := List.mem_map.mp hd
    exact ⟨z.2, mem z (in0 z hz), rfl⟩
  refine ⟨a, L0.map toP, rfl, h1, fun p hp => ?_, fun d hd d' hd' => ?_, .inl fun d hd => ?_, fun L' p pm asc len np => .inl ⟨p, _, rfl, SqL.of upd_same, fun q nq => ?_⟩⟩
  · obtain ⟨z, hz, rfl⟩ := List.mem_map.mp hp
    exact kp_of ((e3 z (in0 z hz)).same s1) (f.key _ (mem z (in0 z hz))) (f.dep _ (mem z (in0 z hz)))
  · obtain ⟨e, he, rfl⟩ := snd d hd
    obtain ⟨e', he', rfl⟩ := snd d' hd'
    exact f.al e he e' he'
  · obtain ⟨e, he, rfl⟩ := snd d hd
    obtain ⟨x, r, rfl⟩ := f.tup e he
    exact ⟨x.py, D.pyAll r, rfl⟩
  obtain ⟨M0, pM, rfl⟩ := Ns.perm_back toP pm rfl
  have s2 : Same H1 (upd H1 p (.lst ((M0.map toP).map fun r => V.ref r.1))) := same_new (Same.refl H1) np
  generalize upd H1 p (.lst ((M0.map toP).map fun r => V.ref r.1)) = H2 at s2 nq
  have s3 : Same H2 (upd H2 q (.tup ((M0.map toP).map fun r => V.ref r.1))) := same_new (Same.refl H2) nq
  have st := (s1.trans s2).trans s3
  have inM : ∀ p ∈ M0, p ∈ ks := fun p hp => in0 p (pM.mem_iff.mp hp)
  have er : (M0.map toP).map (fun r => V.ref r.1) = M0.map fun p => V.ref p.1 := by
    rw [List.map_map]
    rfl
  refine k q _ ((M0.map toP).map fun r => V.ref r.1) (M0.map (·.2)) st ((s1.trans s2).free nq) upd_same ?_ ⟨fun d hd => ?_, fun d hd => ?_, ?_, ?_, by rw [List.length_map] at len ⊢; exact len⟩
  · have q := rp_of_refs fun p hp => (e3 p (inM p hp)).same st
    rw [← er] at q
    exact q
  · obtain ⟨z, hz, rfl⟩ := List.mem_map.mp hd
    exact mem z (inM z hz)
  · rw [← e2] at hd
    obtain ⟨z, hz, rfl⟩ := List.mem_map.mp hd
    have q := all (toP z) (List.mem_map_of_mem hz)
    rw [List.map_map] at q
    obtain ⟨y, hy, e⟩ := List.mem_map.mp q
    have ey : y.2 = z.2 := py_inj _ _ (f.key _ (mem y (in0 y hy))) (f.key _ (mem z hz)) e
    exact List.mem_map.mpr ⟨y, pM.mem_iff.mpr hy, ey⟩
  · have n1 : ((M0.map (·.2)).map D.py).Nodup := by
      have n2 := ((pM.map toP).map (·.2)).nodup_iff.mpr nd
      rw [List.map_map] at n2
      rw [List.map_map]
      exact n2
    exact List.Pairwise.of_map D.py (fun _ _ hne z => hne (congrArg D.py z)) n1
  · rw [List.pairwise_map] at asc ⊢
    exact asc
end Gy

namespace Gy
open PySem L2 PySem.Spec PyProof.Rows
open PySem.W (AllAlike Sortable dataLe alike alikeAll)
/-! ### needs, grounds -/
inductive Nd where
  | row (r : Str) (t m : Int)
  | knd (n : Str) (a t m : Int)
def Nd.d : Nd → D
  | .row r t m => .tup [.str "row", .str r, .int t, .int m]
  | .knd n a t m => .tup [.str "kind", .str n, .int a, .int t, .int m]
def Nd.ok (rows names : List Str) : Nd → Prop
  | .row r t m => r ∈ rows ∧ (0 ≤ t ∧ t ≤ 4) ∧ (0 ≤ m ∧ m ≤ 9)
  | .knd n a t m => n ∈ names ∧ (1 ≤ a ∧ a ≤ 9) ∧ (0 ≤ t ∧ t ≤ 4) ∧ (0 ≤ m ∧ m ≤ 9)
theorem Nd.d_inj : ∀ {x y : Nd}, x.d = y.d → x = y
  | .row _ _ _, .row _ _ _, h => by
    simp only [Nd.d, D.tup.injEq, List.cons.injEq, D.str.injEq, D.int.injEq] at h
    obtain ⟨_, h1, h2, h3, _⟩ := h
    rw [h1, h2, h3]
  | .knd _ _ _ _, .knd _ _ _ _, h => by
    simp only [Nd.d, D.tup.injEq, List.cons.injEq, D.str.injEq, D.int.injEq] at h
    obtain ⟨_, h1, h2, h3, h4, _⟩ := h
    rw [h1, h2, h3, h4]
  | .row _ _ _, .knd _ _ _ _, h => by simp [Nd.d] at h
  | .knd _ _ _ _, .row _ _ _, h => by simp [Nd.d] at h
theorem Nd.key (x : Nd) : x.d.key = true ∧ x.d.depth ≤ 8 ∧ (∃ y r, x.d = .tup (y :: r)) := by
  cases x with
  | row r t m => exact ⟨rfl, by show 1 ≤ 8; decide, _, _, rfl⟩
  | knd n a t m => exact ⟨rfl, by show 1 ≤ 8; decide, _, _, rfl⟩
theorem Nd.al (x y : Nd) : alike x.d.py y.d.py = true := by
  cases x <;> cases y <;> simp [Nd.d, D.py, D.pyAll, alike, alikeAll]
def gd (g : List Nd) : D := .tup (g.map Nd.d)
/-- a ground: at most n needs, ascending -/
structure GOk (rows names : List Str) (n : Nat) (g : List Nd) : Prop where
  ne : g ≠ []
  len : g.length ≤ n
  ok : ∀ x ∈ g, x.ok rows names
  nd : g.Nodup
  asc : (g.map Nd.d).Pairwise fun x y => leD x y = true
theorem fit_nds {g : List Nd} (h : g.length < 64) : Fit (g.map Nd.d) := {
  key := fun d hd => by
    obtain ⟨x, _, rfl⟩ := List.mem_map.mp hd
    exact x.key.1
  dep := fun d hd => by
    obtain ⟨x, _, rfl⟩ := List.mem_map.mp hd
    exact x.key.2.1
  tup := fun d hd => by
    obtain ⟨x, _, rfl⟩ := List.mem_map.mp hd
    exact x.key.2.2
  al := fun d hd e he => by
    obtain ⟨x, _, rfl⟩ := List.mem_map.mp hd
    obtain ⟨y, _, rfl⟩ := List.mem_map.mp he
    exact x.al y
  len := by rw [List.length_map]; exact h }
theorem nodup_sub {α : Type} : ∀ {l m : List α}, l.Nodup → (∀ x ∈ l, x ∈ m) → l.length ≤ m.length
  | [], _, _, _ => Nat.zero_le _
  | x :: l, m, n, h => by
    obtain ⟨n1, n2⟩ := List.nodup_cons.mp n
    obtain ⟨u, v, rfl⟩ := List.append_of_mem (h x List.mem_cons_self)
    have q := nodup_sub (m := u ++ v) n2 fun y hy => by
      have hm := h y (List.mem_cons_of_mem _ hy)
      rcases List.mem_append.mp hm with z | z
      · exact List.mem_append_left _ z
      · rcases List.mem_cons.mp z with e | z
        · rw [e] at hy
          exact absurd hy n1
        · exact List.mem_append_right _ z
    rw [List.length_append] at q
    rw [List.length_cons, List.length_append, List.length_cons]
    omega
theorem once_gok {rows names : List Str} {g : List Nd} {es : List D} {n : Nat} (hn : g.length ≤ n) (ne : g ≠ []) (ok : ∀ x ∈ g, x.ok rows names) (o : Once (g.map Nd.d) es) : ∃ g', es = g'.map Nd.d ∧ GOk rows names n g' := by
  obtain ⟨g', ig, rfl⟩ := back_map Nd.d o.sub
  have nd : g'.Nodup := List.Pairwise.of_map Nd.d (fun _ _ hne z => hne (congrArg Nd.d z)) o.nd
  refine ⟨g', rfl, ⟨fun z => ?_, Nat.le_trans (nodup_sub nd ig) hn, fun x hx => ok x (ig x hx), nd, o.asc⟩⟩
  obtain ⟨x, l, rfl⟩ := List.exists_cons_of_ne_nil ne
  have q := o.all _ (List.mem_map_of_mem (List.mem_cons_self (a := x) (l := l)))
  rw [z] at q
  cases q
/-! ### choosing -/
section
variable {K : PySem.W.Frag} {σ : L2.St} {i : Nat} {b c : Addr} {H : Hp} {Q : VK} {ta : TA}
theorem some_read {G : V → Prop} (hb : σ[i]? = some (some (.ref b))) (ht : ∀ Q' : List V → Hp → Prop, (∀ vs H', Ext b H H' → BagC c H' b → vs ≠ [] → vs.length ≤ 1000 → (∀ v ∈ vs, G v) → Q' vs H') → ta σ H Q')
    (k : ∀ v H', G v → Ext b H H' → BagC c H' b → Q v H') : tCall (spSome K) [] E0 (tCons (tVar i) (tCons (tLst ta) tNil)) σ H Q := by
  refine ⟨_, hb, ht _ fun vs H' e B ne len all => ⟨by rw [sizeLine_eq]; omega, fun p np => ?_⟩⟩
  have s : Same H' (upd H' p (.lst vs)) := same_new (Same.refl H') np
  exact ⟨b, c, p, vs, rfl, ne_at np B.hbs, .inl upd_same, List.length_pos_iff.mpr ne, by omega, B.same s, fun v H2 hv e2 B2 => k v H2 (all v hv) ((e.trans' (ext_same s)).trans' e2) B2⟩
theorem some_const {vs : List V} {G : V → Prop} (hb : σ[i]? = some (some (.ref b))) (B : BagC c H b) (ht : ∀ Q' : List V → Hp → Prop, Q' vs H → ta σ H Q') (ne : vs ≠ []) (len : vs.length ≤ 1000) (all : ∀ v ∈ vs, G v)
    (k : ∀ v H', G v → Ext b H H' → BagC c H' b → Q v H') : tCall (spSome K) [] E0 (tCons (tVar i) (tCons (tLst ta) tNil)) σ H Q :=
  some_read hb (fun Q' q => ht Q' (q vs H (Ext.refl' b H) B ne len all)) k
end
def IntIn (lo hi : Int) (v : V) : Prop := ∃ z : Int, v = .int z ∧ lo ≤ z ∧ z ≤ hi
theorem ints_in {lo hi : Int} {ns : List Int} (h : ∀ n ∈ ns, lo ≤ n ∧ n ≤ hi) : ∀ v ∈ ns.map V.int, IntIn lo hi v := fun v hv => by
  obtain ⟨z, hz, rfl⟩ := List.mem_map.mp hv
  exact ⟨z, rfl, h z hz⟩
abbrev sNumbers : Stmt := top 37
def spNumbers : Sp := fun vs H Q _ => ∃ (b c : Addr), vs = [.ref b] ∧ BagC c H b ∧
  ∀ (p : Addr) (H' : Hp) (a t m : Int), Ext b H H' → BagC c H' b → H p = none → H' p = some (.tup [.int a, .int t, .int m]) → 1 ≤ a → a ≤ 9 → 0 ≤ t → t ≤ 4 → 0 ≤ m → m ≤ 9 → Q (.ref p) H'
structure TxtG (K : PySem.W.Frag) (mg : Str → Option Value) (fT fS : Addr) (fdS : FuncData) : Prop where
  b : TxtB K mg fT
  gS : mg "_law_some" = some (.ref fS)
  bS : L2.Binds K fdS ["_law_bag_here", "_law_things"] []
  kS : PySem.W.keepIn K (.ref fS) = true
section
variable {P : Program} {w : World} {K : PySem.W.Frag} {mg : Str → Option Value} {base : Heap}
theorem scNumbers : FnScope ["_law_bag_here", "_law_most"] ["_law_bag_here"] (defScope sNumbers) := ⟨rfl, rfl, rfl, by decide +kernel, rfl, by decide +kernel, by decide +kernel⟩
theorem ok_numbers {f fT fS : Addr} {fd fdT fdS : FuncData} (F : Fun K "_law_numbers" "_law_numbers" sNumbers f fd) (T : TxtG K mg fT fS fdS) (GS : FnOk P w K mg base CX0 2 fS fdS ["_law_bag_here", "_law_things"] (spSome K))
    (GT : FnOk P w K mg base CX0 1 fT fdT ["_law_bag_here", "_law_upto"] spTake) (bT : L2.Binds K fdT ["_law_bag_here", "_law_upto"] []) : FnOk P w K mg base CX0 3 f fd ["_law_bag_here"] spNumbers := by
  refine F.ok scNumbers (fun vs H Q E h => ?_) (fun cdv A outer s H vs Q E hr h => ?_)
  · obtain ⟨b, c, rfl, _⟩ := h
    rfl
  · obtain ⟨b, c, rfl, B, k⟩ := h
    have nd := scNumbers.nd
    have hr1 := hr.mono (by decide : 1 ≤ 2)
    refine ⟨_, pss_cons (ps_set (i := 1) nd rfl (Or.inl rfl) (pe_call GS hr rfl T.gS T.kS T.bS .nil pass0 (pa_cons (pv 0) (pa_cons (pe_lst (pa_cons pe_int (pa_cons pe_int (pa_cons pe_int (pa_cons pe_int (pa_cons pe_int (pa_cons pe_int (pa_cons pe_int (pa_cons pe_int (pa_cons pe_int (pa_cons pe_int pa_nil))))))))))) pa_nil))))
      (pss_one (ps_ret (pe_tup (pa_cons (pe_op op_add pe_int (pe_call GS hr rfl T.gS T.kS T.bS .nil pass0 (pa_cons (pv 0) (pa_cons (pe_lst (pa_cons pe_int (pa_cons pe_int (pa_cons pe_int (pa_cons pe_int (pa_cons (pe_call GT hr1 rfl T.b.gT T.b.kT bT .nil pass0 (pa_cons (pv 0) (pa_cons pe_int pa_nil))) pa_nil)))))) pa_nil))))
        (pa_cons (pe_call GS hr rfl T.gS T.kS T.bS .nil pass0 (pa_cons (pv 0) (pa_cons (pe_lst (pa_cons pe_int (pa_cons pe_int (pa_cons pe_int (pa_cons pe_int (pa_cons pe_int (pa_cons pe_int pa_nil))))))) pa_nil))) (pa_cons (pv 1) pa_nil)))))), ?_⟩
    refine some_const (G := IntIn 0 9) (vs := ([9, 9, 9, 9, 1, 2, 3, 5, 8, 0] : List Int).map V.int) rfl B (fun Q' q => q) (by simp) (by simp) (ints_in (by decide)) fun v H1 hv e1 B1 => ?_
    obtain ⟨m, rfl, m0, m9⟩ := hv
    refine some_read (G := IntIn 0 8) (c := c) rfl (fun Q' q => ⟨_, rfl, b, c, _, rfl, by decide, by decide, B1, fun r H2 r0 r1 e2 B2 => q (([0, 0, 1, 2, r] : List Int).map V.int) H2 e2 B2 (by simp) (by simp) (ints_in fun n hn => ?_)⟩) fun v H2 hv e2 B2 => ?_
    · simp only [List.mem_cons, List.not_mem_nil, or_false] at hn
      rcases hn with h | h | h | h | h <;> omega
    obtain ⟨a, rfl, a0, a8⟩ := hv
    refine ⟨1, a, rfl, rfl, ?_⟩
    refine some_const (G := IntIn 0 4) (vs := ([0, 1, 1, 2, 3, 4] : List Int).map V.int) rfl B2 (fun Q' q => q) (by simp) (by simp) (ints_in (by decide)) fun v H3 hv e3 B3 => ?_
    obtain ⟨t, rfl, t0, t4⟩ := hv
    refine ⟨_, rfl, by show 3 ≤ sizeLine; decide, fun p np => ?_⟩
    have e13 := (e1.trans' e2).trans' e3
    have s : Same H3 (upd H3 p (.tup [.int (1 + a), .int t, .int m])) := same_new (Same.refl H3) np
    exact k p _ (1 + a) t m (e13.trans' (ext_same s)) (B3.same s) (e13.dom' B3 p np) upd_same (by omega) (by omega) t0 t4 m0 m9
end
end Gy

namespace Gy
open PySem L2 PySem.Spec PyProof.Rows
open PySem.W (AllAlike Sortable dataLe alike alikeAll)
abbrev sNeed : Stmt := top 38
/-- rows and names at hand: tuples of texts, not empty -/
structure Stock (H : Hp) (r n : Addr) (rows names : List Str) : Prop where
  hr : H r = some (.tup (rows.map V.str))
  hn : H n = some (.tup (names.map V.str))
  nr : rows ≠ []
  nn : names ≠ []
  lr : rows.length ≤ 1000
  ln : names.length ≤ 1000
theorem Stock.tups {H H' : Hp} {r n : Addr} {rows names : List Str} (s : Stock H r n rows names) (t : Tups H H') : Stock H' r n rows names := ⟨t _ _ s.hr, t _ _ s.hn, s.nr, s.nn, s.lr, s.ln⟩
def spNeed (K : PySem.W.Frag) : Sp := fun vs H Q _ => ∃ (b c r n : Addr) (rows names : List Str), vs = [.ref b, .ref r, .ref n] ∧ BagC c H b ∧ Stock H r n rows names ∧
  ∀ (p : Addr) (H' : Hp) (x : Nd), Ext b H H' → BagC c H' b → H p = none → Rp K H' (.ref p) x.d → x.ok rows names → Q (.ref p) H'
/-- some(bag, t), t a tuple of texts -/
theorem some_strs {K : PySem.W.Frag} {σ : L2.St} {i j : Nat} {b c r : Addr} {H : Hp} {Q : VK} {ss : List Str} (hb : σ[i]? = some (some (.ref b))) (hr : σ[j]? = some (some (.ref r))) (B : BagC c H b) (e : H r = some (.tup (ss.map V.str))) (ne : ss ≠ []) (len : ss.length ≤ 1000)
    (k : ∀ x H', x ∈ ss → Ext b H H' → BagC c H' b → Q (.str x) H') : tCall (spSome K) [] E0 (tCons (tVar i) (tCons (tVar j) tNil)) σ H Q := by
  obtain ⟨l, hl⟩ := B.lst
  refine ⟨_, hb, _, hr, b, c, r, ss.map V.str, rfl, (fun z => by rw [z, hl] at e; cases e), .inr e, by rw [List.length_map]; exact List.length_pos_iff.mpr ne, by rw [List.length_map]; omega, B, fun v H' hv e2 B2 => ?_⟩
  obtain ⟨x, hx, rfl⟩ := List.mem_map.mp hv
  exact k x H' hx e2 B2
section
variable {P : Program} {w : World} {K : PySem.W.Frag} {mg : Str → Option Value} {base : Heap}
structure TxtE (K : PySem.W.Frag) (mg : Str → Option Value) (fT fS fN : Addr) (fdT fdS fdN : FuncData) : Prop where
  g : TxtG K mg fT fS fdS
  bT : L2.Binds K fdT ["_law_bag_here", "_law_upto"] []
  gN : mg "_law_numbers" = some (.ref fN)
  bN : L2.Binds K fdN ["_law_bag_here"] []
  kN : PySem.W.keepIn K (.ref fN) = true
theorem scNeed : FnScope ["_law_bag_here", "_law_rows", "_law_names", "_law_after", "_law_tell", "_law_most"] ["_law_bag_here", "_law_rows", "_law_names"] (defScope sNeed) := ⟨rfl, rfl, rfl, by decide +kernel, rfl, by decide +kernel, by decide +kernel⟩
theorem ok_need {f fT fS fN : Addr} {fd fdT fdS fdN : FuncData} (F : Fun K "_law_need" "_law_need" sNeed f fd) (T : TxtE K mg fT fS fN fdT fdS fdN) (GS : FnOk P w K mg base CX0 2 fS fdS ["_law_bag_here", "_law_things"] (spSome K))
    (GT : FnOk P w K mg base CX0 1 fT fdT ["_law_bag_here", "_law_upto"] spTake) (GN : FnOk P w K mg base CX0 3 fN fdN ["_law_bag_here"] spNumbers) : FnOk P w K mg base CX0 4 f fd ["_law_bag_here", "_law_rows", "_law_names"] (spNeed K) := by
  refine F.ok scNeed (fun vs H Q E h => ?_) (fun cdv A outer s H vs Q E hr h => ?_)
  · obtain ⟨b, c, r, n, rows, names, rfl, _⟩ := h
    rfl
  · obtain ⟨b, c, r, n, rows, names, rfl, B, st, k⟩ := h
    have nd := scNeed.nd
    have hr1 := hr.mono (by decide : 1 ≤ 3)
    have hr2 := hr.mono (by decide : 2 ≤ 3)
    refine ⟨_, pss_cons (ps_asg (pe_call GN hr rfl T.gN T.kN T.bN .nil pass0 (pa_cons (pv 0) pa_nil)) (pg_tup rfl (pgs_cons (pg_name (i := 3) nd rfl (Or.inl rfl)) (pgs_cons (pg_name (i := 4) nd rfl (Or.inl rfl)) (pgs_cons (pg_name (i := 5) nd rfl (Or.inl rfl)) pgs_nil)))))
      (pss_cons (ps_if (pt_cmpR op_lt (pe_call GT hr1 rfl T.g.b.gT T.g.b.kT T.bT .nil pass0 (pa_cons (pv 0) (pa_cons pe_int pa_nil))) pe_int (nomark _))
        (pss_one (ps_ret (pe_tup (pa_cons pe_str (pa_cons (pe_call GS hr2 rfl T.g.gS T.g.kS T.g.bS .nil pass0 (pa_cons (pv 0) (pa_cons (pv 1) pa_nil))) (pa_cons (pv 4) (pa_cons (pv 5) pa_nil))))))) pss_nil)
      (pss_one (ps_ret (pe_tup (pa_cons pe_str (pa_cons (pe_call GS hr2 rfl T.g.gS T.g.kS T.g.bS .nil pass0 (pa_cons (pv 0) (pa_cons (pv 2) pa_nil))) (pa_cons (pv 3) (pa_cons (pv 4) (pa_cons (pv 5) pa_nil))))))))), ?_⟩
    refine ⟨_, rfl, b, c, rfl, B, fun p H1 a t m e1 B1 np hp a1 a9 t0 t4 m0 m9 => ?_⟩
    refine ⟨p, _, rfl, SqT.of hp, rfl, _, _, rfl, _, _, rfl, _, _, rfl, rfl, ?_⟩
    have st1 := st.tups (B.tups e1)
    refine ⟨_, rfl, b, c, 5, rfl, by decide, by decide, B1, fun z H2 z0 z5 e2 B2 => ?_⟩
    have st2 := st1.tups (B1.tups e2)
    refine ⟨z, 2, rfl, rfl, decide (z < 2), rfl, ?_⟩
    cases decide (z < 2) with
    | true =>
      refine iteT ?_
      refine some_strs rfl rfl B2 st2.hr st2.nr st2.lr fun x H3 hx e3 B3 => ?_
      refine ⟨_, rfl, _, rfl, by show 4 ≤ sizeLine; decide, fun q nq => ?_⟩
      have E3 := (e1.trans' e2).trans' e3
      have s : Same H3 (upd H3 q (.tup [.str "row", .str x, .int t, .int m])) := same_new (Same.refl H3) nq
      exact k q _ (.row x t m) (E3.trans' (ext_same s)) (B3.same s) (E3.dom' B3 q nq) (.tup upd_same (.cons (.str _) (.cons (.str _) (.cons (.int _) (.cons (.int _) .nil))))) ⟨hx, ⟨t0, t4⟩, m0, m9⟩
    | false =>
      refine iteF ?_
      refine some_strs (i := 0) (j := 2) rfl rfl B2 st2.hn st2.nn st2.ln fun x H3 hx e3 B3 => ?_
      refine ⟨_, rfl, _, rfl, _, rfl, by show 5 ≤ sizeLine; decide, fun q nq => ?_⟩
      have E3 := (e1.trans' e2).trans' e3
      have s : Same H3 (upd H3 q (.tup [.str "kind", .str x, .int a, .int t, .int m])) := same_new (Same.refl H3) nq
      exact k q _ (.knd x a t m) (E3.trans' (ext_same s)) (B3.same s) (E3.dom' B3 q nq) (.tup upd_same (.cons (.str _) (.cons (.str _) (.cons (.int _) (.cons (.int _) (.cons (.int _) .nil)))))) ⟨hx, ⟨a1, a9⟩, ⟨t0, t4⟩, m0, m9⟩
end
end Gy

namespace Gy
open PySem L2 PySem.Spec PyProof.Rows
open PySem.W (AllAlike Sortable dataLe alike alikeAll)
abbrev sGround : Stmt := top 39
def spGround (K : PySem.W.Frag) : Sp := fun vs H Q _ => ∃ (b c r n : Addr) (rows names : List Str), vs = [.ref b, .ref r, .ref n] ∧ BagC c H b ∧ Stock H r n rows names ∧
  ∀ (p : Addr) (H' : Hp) (g : List Nd), Ext b H H' → BagC c H' b → H p = none → Rp K H' (.ref p) (gd g) → GOk rows names 3 g → Q (.ref p) H'
theorem nds_flat : ∀ (g : List Nd), D.flatAll (g.map Nd.d) = true
  | [] => rfl
  | x :: g => by
    have q := (key_kb x.d x.key.1).2.1
    simp only [List.map_cons, D.flatAll, q, nds_flat g, Bool.and_self]
structure TxtO (mg : Str → Option Value) : Prop where
  tup : mg "tuple" = none
  srt : mg "sorted" = none
  set : mg "set" = none
  rng : mg "range" = none
section
variable {P : Program} {w : World} {K : PySem.W.Frag} {mg : Str → Option Value} {base : Heap}
theorem scGround : FnScope ["_law_bag_here", "_law_rows", "_law_names", "_law_some_here", "_law_k"] ["_law_bag_here", "_law_rows", "_law_names"] (defScope sGround) := ⟨rfl, rfl, rfl, by decide +kernel, rfl, by decide +kernel, by decide +kernel⟩
theorem ok_ground {f fT fS fD : Addr} {fd fdS fdD : FuncData} (F : Fun K "_law_ground" "_law_ground" sGround f fd) (T : TxtG K mg fT fS fdS) (O : TxtO mg) (GS : FnOk P w K mg base CX0 2 fS fdS ["_law_bag_here", "_law_things"] (spSome K))
    (gD : mg "_law_need" = some (.ref fD)) (bD : L2.Binds K fdD ["_law_bag_here", "_law_rows", "_law_names"] []) (kD : PySem.W.keepIn K (.ref fD) = true) (GD : FnOk P w K mg base CX0 4 fD fdD ["_law_bag_here", "_law_rows", "_law_names"] (spNeed K)) :
    FnOk P w K mg base CX0 5 f fd ["_law_bag_here", "_law_rows", "_law_names"] (spGround K) := by
  refine F.ok scGround (fun vs H Q E h => ?_) (fun cdv A outer s H vs Q E hr h => ?_)
  · obtain ⟨b, c, r, n, rows, names, rfl, _⟩ := h
    rfl
  · obtain ⟨b, c, r, n, rows, names, rfl, B, st, k⟩ := h
    have nd := scGround.nd
    have hr2 := hr.mono (by decide : 2 ≤ 4)
    have hu := hr.units
    refine ⟨_, pss_cons (ps_setLc (i := 3) (own := [("_law_k", 4)]) (g := gName 4) (tt := tYes) (te := tCall (spNeed K) [] E0 (tCons (tVar 0) (tCons (tVar 1) (tCons (tVar 2) tNil)))) rfl nd rfl rfl (sw_true rfl rfl rfl (by decide +kernel))
        (pi_range1 (by rfl) O.rng (pa_cons (pe_call GS hr2 rfl T.gS T.kS T.bS .nil pass0 (pa_cons (pv 0) (pa_cons (pe_lst (pa_cons pe_int (pa_cons pe_int (pa_cons pe_int (pa_cons pe_int (pa_cons pe_int (pa_cons pe_int pa_nil))))))) pa_nil))) pa_nil))
        (blkOk_by (own := [("_law_k", 4)]) (N := ["_law_bag_here", "_law_rows", "_law_names", "_law_some_here", "_law_k"]) (sc := defScope sGround) (by decide +kernel))
        (fun _ _ _ _ _ => pg_name (i := 4) nd rfl (Or.inl rfl)) (fun _ _ _ _ _ => pts_nil) (fun _ _ _ _ _ => pe_call GD hr rfl gD kD bD .nil pass0 (pa_cons (pv 0) (pa_cons (pv 1) (pa_cons (pv 2) pa_nil)))))
      (pss_one (ps_ret (pe_tupleOf (by rfl) O.tup (pe_callB (Ns.cr_sortedN rfl hu) (by rfl) O.srt (by decide +kernel) (pa_cons (pe_callTy (Ns.cr_setN rfl hu) (by rfl) O.set (by decide +kernel) (pa_cons (pv 3) pa_nil)) pa_nil))))), ?_⟩
    refine some_const (G := IntIn 1 3) (vs := ([1, 1, 1, 2, 2, 3] : List Int).map V.int) rfl B (fun Q' q => q) (by simp) (by simp) (ints_in (by decide)) fun v H1 hv e1 B1 => ?_
    obtain ⟨j, rfl, j1, j3⟩ := hv
    have st1 := st.tups (B.tups e1)
    refine ⟨j, rfl, by omega, by omega, fun D nD => ?_⟩
    have nDb : D ≠ b := ne_at nD B1.hbs
    have nDc : D ≠ c := ne_at nD B1.hcs
    have main : ∀ (Qd : Hp → Prop), (∀ (H' : Hp) (vs : List V) (g : List Nd), Ext b H1 H' → BagC c H' b → H' D = some (.lst vs) → RpAll K H' vs (g.map Nd.d) → g.length = j.toNat → (∀ x ∈ g, x.ok rows names) → Qd H') →
        ∃ W : Nat → Nat → Hp → Prop, (∃ m, W 0 m (upd H1 D (.lst []))) ∧ ∀ i m H, W i m H →
          ((Itr 0 j.toNat).stop i H ∧ Qd H) ∨ ((Itr 0 j.toNat).go i H ∧ ∃ Nx : Hp → Prop, (∀ H', Nx H' → ∃ m', m' < m ∧ W (i + 1) m' H') ∧ ∀ x H', (Itr 0 j.toNat).yld i H x H' → (gName 4) x (wipe [some (.ref b), some (.ref r), some (.ref n), none, none] [4]) H' fun σ2 H2 =>
            wipe σ2 [4] = wipe [some (.ref b), some (.ref r), some (.ref n), none, none] [4] ∧ tYes σ2 H2 fun bb H3 => if bb = true then tCall (spNeed K) [] E0 (tCons (tVar 0) (tCons (tVar 1) (tCons (tVar 2) tNil))) σ2 H3 fun y H4 => ∃ acc, H4 D = some (.lst acc) ∧ acc.length < sizeLine ∧ Nx (upd H4 D (.lst (acc ++ [y]))) else Nx H3) := by
      intro Qd fin
      refine lc_range (n := j.toNat) (fun i H' => Ext b H1 H' ∧ BagC c H' b ∧ ∃ (vs : List V) (g : List Nd), H' D = some (.lst vs) ∧ RpAll K H' vs (g.map Nd.d) ∧ g.length = i ∧ ∀ x ∈ g, x.ok rows names) ⟨ext_put (Ext.refl' b H1) nD, B1.put nDb nDc, [], [], upd_same, .nil, rfl, fun x m => absurd m List.not_mem_nil⟩ ?_ ?_
      · rintro i H' hi ⟨e, B', vs, g, hD, rp, lg, ok⟩
        have st' := st1.tups (B1.tups e)
        refine ⟨rfl, tyes_go ⟨_, rfl, _, rfl, _, rfl, b, c, r, n, rows, names, rfl, B', st', fun p H2 x e2 B2 np rx okx => ?_⟩⟩
        have hD2 := e2 D _ nDb hD
        have T2 := B'.tups e2
        have T3 : Tups H2 (upd H2 D (.lst (vs ++ [.ref p]))) := Tups.put hD2
        have lv : vs.length = i := by rw [rp.len, List.length_map, lg]
        refine ⟨vs, hD2, by rw [lv, sizeLine_eq]; omega, ext_put (e.trans' e2) nD, B2.put nDb nDc, vs ++ [.ref p], g ++ [x], upd_same, ?_, by rw [List.length_append, lg]; rfl, fun y hy => ?_⟩
        · rw [List.map_append]
          exact ((rp.tups (T2.trans T3) (nds_flat g)).append (.cons (Rp.tups T3 rx (key_kb x.d x.key.1).2.1) .nil))
        · rcases List.mem_append.mp hy with z | z
          · exact ok y z
          · rw [List.mem_singleton.mp z]
            exact okx
      · rintro H' ⟨e, B', vs, g, hD, rp, lg, ok⟩
        exact fin H' vs g e B' hD rp lg ok
    refine main _ fun H2 vs g e2 B2 hD rp lg ok => ?_
    have lt : g.length < 64 := by omega
    have ne : g ≠ [] := fun z => by rw [z] at lg; simp at lg; omega
    refine ⟨_, rfl, once_go (.inl hD) rp (fit_nds lt) fun p H3 vs' es s3 np hp rp' on => ?_⟩
    obtain ⟨g', rfl, gok⟩ := once_gok (n := 3) (by omega) ne ok on
    have E2 := e1.trans' e2
    exact k p H3 g' (E2.trans' (ext_same s3)) (B2.same s3) (E2.dom' B2 p np) (.tup hp rp') gok
end
end Gy

namespace Gy
open PySem L2 PySem.Spec PyProof.Rows
open PySem.W (AllAlike Sortable dataLe alike alikeAll)
/-! ### kinds, rulebooks -/
structure Kd where
  name : Str
  keep : Int
  bar : Int
  gs : List (List Nd)
def Kd.d (k : Kd) : D := .tup [.str k.name, .int k.keep, .int k.bar, .tup (k.gs.map gd)]
structure Bk where
  rows : List Str
  kinds : List Kd
def Bk.d (b : Bk) : D := .tup [.tup (b.rows.map .str), .tup (b.kinds.map Kd.d)]
def Bk.names (b : Bk) : List Str := b.kinds.map Kd.name
structure KOk (rows names : List Str) (k : Kd) : Prop where
  keep : 1 ≤ k.keep ∧ k.keep ≤ 8
  bar : 0 ≤ k.bar ∧ k.bar ≤ 12
  gs : ∀ g ∈ k.gs, GOk rows names 3 g
  len : k.gs.length ≤ 4
  nd : k.gs.Nodup
  asc : (k.gs.map gd).Pairwise fun x y => leD x y = true
structure NamesOk (ns : List Str) : Prop where
  ne : ns ≠ []
  len : ns.length ≤ 15
  nd : ns.Nodup
  asc : sortedS ns = true
  mem : ∀ x ∈ ns, x ∈ menu
structure BOk (b : Bk) : Prop where
  rows : NamesOk b.rows
  names : NamesOk b.names
  kinds : ∀ k ∈ b.kinds, KOk b.rows b.names k
theorem Names.ok {ns : List Str} {m : Nat} (h : Names ns m) (hm : 0 < m) : NamesOk ns := ⟨fun z => by
  have := h.len
  rw [z] at this
  simp only [List.length_nil] at this
  omega, by rw [h.len]; omega, h.nd, h.asc, h.mem⟩
theorem map_inj {α β : Type} {f : α → β} (hf : ∀ {x y}, f x = f y → x = y) : ∀ {l m : List α}, l.map f = m.map f → l = m
  | [], [], _ => rfl
  | x :: l, y :: m, h => by
    simp only [List.map_cons, List.cons.injEq] at h
    rw [hf h.1, map_inj hf h.2]
  | [], _ :: _, h => by cases h
  | _ :: _, [], h => by cases h
theorem gd_inj {g h : List Nd} (e : gd g = gd h) : g = h := by
  unfold gd at e
  injection e with e
  exact map_inj Nd.d_inj e
theorem nds_key : ∀ (g : List Nd), D.keyAll (g.map Nd.d) = true ∧ D.depthAll (g.map Nd.d) ≤ 1
  | [] => ⟨rfl, Nat.zero_le _⟩
  | x :: g => by
    obtain ⟨h1, h2⟩ := nds_key g
    have q := x.key.1
    have e : x.d.depth ≤ 1 := by cases x <;> exact Nat.le_refl _
    simp only [List.map_cons, D.keyAll, D.depthAll, q, h1, Bool.and_self]
    exact ⟨trivial, by omega⟩
theorem nds_al : ∀ (g h : List Nd), alikeAll (D.pyAll (g.map Nd.d)) (D.pyAll (h.map Nd.d)) = true
  | [], _ => by simp [D.pyAll, alikeAll]
  | _ :: _, [] => by simp [D.pyAll, alikeAll]
  | x :: g, y :: h => by simp only [List.map_cons, D.pyAll, alikeAll, x.al y, nds_al g h, Bool.and_self]
theorem gd_key (g : List Nd) : (gd g).key = true ∧ (gd g).depth ≤ 8 := by
  obtain ⟨h1, h2⟩ := nds_key g
  exact ⟨by simp only [gd, D.key, h1], by simp only [gd, D.depth]; omega⟩
theorem fit_gds {gs : List (List Nd)} (ne : ∀ g ∈ gs, g ≠ []) (h : gs.length < 64) : Fit (gs.map gd) := {
  key := fun d hd => by
    obtain ⟨x, _, rfl⟩ := List.mem_map.mp hd
    exact (gd_key x).1
  dep := fun d hd => by
    obtain ⟨x, _, rfl⟩ := List.mem_map.mp hd
    exact (gd_key x).2
  tup := fun d hd => by
    obtain ⟨x, hx, rfl⟩ := List.mem_map.mp hd
    obtain ⟨y, l, rfl⟩ := List.exists_cons_of_ne_nil (ne x hx)
    exact ⟨y.d, l.map Nd.d, rfl⟩
  al := fun d hd e he => by
    obtain ⟨x, _, rfl⟩ := List.mem_map.mp hd
    obtain ⟨y, _, rfl⟩ := List.mem_map.mp he
    exact nds_al x y
  len := by rw [List.length_map]; exact h }
theorem gds_flat : ∀ (gs : List (List Nd)), D.flatAll (gs.map gd) = true
  | [] => rfl
  | x :: g => by
    have q := (key_kb _ (gd_key x).1).2.1
    simp only [List.map_cons, D.flatAll, q, gds_flat g, Bool.and_self]
/-- grounds, alike ones once -/
theorem once_gs {rows names : List Str} {gs : List (List Nd)} {es : List D} {n : Nat} (hn : gs.length ≤ n) (ok : ∀ g ∈ gs, GOk rows names 3 g) (o : Once (gs.map gd) es) :
    ∃ gs' : List (List Nd), es = gs'.map gd ∧ (∀ g ∈ gs', GOk rows names 3 g) ∧ gs'.length ≤ n ∧ gs'.Nodup ∧ (gs'.map gd).Pairwise fun x y => leD x y = true := by
  obtain ⟨gs', ig, rfl⟩ := back_map gd o.sub
  have nd : gs'.Nodup := List.Pairwise.of_map gd (fun _ _ hne z => hne (congrArg gd z)) o.nd
  exact ⟨gs', rfl, fun x hx => ok x (ig x hx), Nat.le_trans (nodup_sub nd ig) hn, nd, o.asc⟩
theorem kd_flat (k : Kd) : k.d.flat = true := by simp only [Kd.d, D.flat, D.flatAll, gds_flat, Bool.and_self]
theorem kds_flat : ∀ (ks : List Kd), D.flatAll (ks.map Kd.d) = true
  | [] => rfl
  | x :: g => by simp only [List.map_cons, D.flatAll, kd_flat x, kds_flat g, Bool.and_self]
theorem strs_flat : ∀ (ss : List Str), D.flatAll (ss.map D.str) = true
  | [] => rfl
  | x :: g => by simp only [List.map_cons, D.flatAll, D.flat, strs_flat g, Bool.and_self]
theorem bk_flat (b : Bk) : b.d.flat = true := by simp only [Bk.d, D.flat, D.flatAll, kds_flat, strs_flat, Bool.and_self]
theorem rp_of_strs {K : PySem.W.Frag} {H : Hp} : ∀ (ss : List Str), RpAll K H (ss.map V.str) (ss.map D.str)
  | [] => .nil
  | x :: ss => .cons (.str x) (rp_of_strs ss)
theorem flatAll_map {X : Type} (dat : X → D) (hf : ∀ x, (dat x).flat = true) : ∀ xs : List X, D.flatAll (xs.map dat) = true
  | [] => rfl
  | x :: xs => by simp only [List.map_cons, D.flatAll, hf x, flatAll_map dat hf xs, Bool.and_self]
/-- [draw(..) for k in range(n)] -/
theorem lc_draw {K : PySem.W.Frag} {σ : L2.St} {j n : Nat} {te : TE} {X : Type} {b c D : Addr} {H1 : Hp} {Qd : Hp → Prop} (dat : X → Gy.D) (hf : ∀ x, (dat x).flat = true) (ok : X → Prop) (nD : H1 D = none) (B1 : BagC c H1 b) (hn : n ≤ 1000)
    (turn : ∀ (i : Nat) (H' : Hp) (Q : VK), Ext b H1 H' → BagC c H' b → (∀ p H2 x, Ext b H' H2 → BagC c H2 b → Rp K H2 (.ref p) (dat x) → ok x → Q (.ref p) H2) → te ((wipe σ [j]).set j (some (.int (0 + (i : Int))))) H' Q)
    (fin : ∀ (H' : Hp) (vs : List V) (xs : List X), Ext b H1 H' → BagC c H' b → H' D = some (.lst vs) → RpAll K H' vs (xs.map dat) → xs.length = n → (∀ x ∈ xs, ok x) → Qd H') :
    ∃ W : Nat → Nat → Hp → Prop, (∃ m, W 0 m (upd H1 D (.lst []))) ∧ ∀ i m H, W i m H →
      ((Itr 0 n).stop i H ∧ Qd H) ∨ ((Itr 0 n).go i H ∧ ∃ Nx : Hp → Prop, (∀ H', Nx H' → ∃ m', m' < m ∧ W (i + 1) m' H') ∧ ∀ x H', (Itr 0 n).yld i H x H' → (gName j) x (wipe σ [j]) H' fun σ2 H2 =>
        wipe σ2 [j] = wipe σ [j] ∧ tYes σ2 H2 fun bb H3 => if bb = true then te σ2 H3 fun y H4 => ∃ acc, H4 D = some (.lst acc) ∧ acc.length < sizeLine ∧ Nx (upd H4 D (.lst (acc ++ [y]))) else Nx H3) := by
  have nDb : D ≠ b := ne_at nD B1.hbs
  have nDc : D ≠ c := ne_at nD B1.hcs
  refine lc_range (n := n) (fun i H' => Ext b H1 H' ∧ BagC c H' b ∧ ∃ (vs : List V) (xs : List X), H' D = some (.lst vs) ∧ RpAll K H' vs (xs.map dat) ∧ xs.length = i ∧ ∀ x ∈ xs, ok x) ⟨ext_put (Ext.refl' b H1) nD, B1.put nDb nDc, [], [], upd_same, .nil, rfl, fun x m => absurd m List.not_mem_nil⟩ ?_ ?_
  · rintro i H' hi ⟨e, B', vs, xs, hD, rp, lg, hok⟩
    refine ⟨by simp [wipe], tyes_go (turn i H' _ e B' fun p H2 x e2 B2 rx okx => ?_)⟩
    have hD2 := e2 D _ nDb hD
    have T2 := B'.tups e2
    have T3 : Tups H2 (upd H2 D (.lst (vs ++ [.ref p]))) := Tups.put hD2
    have lv : vs.length = i := by rw [rp.len, List.length_map, lg]
    refine ⟨vs, hD2, by rw [lv, sizeLine_eq]; omega, ext_put (e.trans' e2) nD, B2.put nDb nDc, vs ++ [.ref p], xs ++ [x], upd_same, ?_, by rw [List.length_append, lg]; rfl, fun y hy => ?_⟩
    · rw [List.map_append]
      exact (rp.tups (T2.trans T3) (flatAll_map dat hf xs)).append (.cons (Rp.tups T3 rx (hf x)) .nil)
    · rcases List.mem_append.mp hy with z | z
      · exact hok y z
      · rw [List.mem_singleton.mp z]
        exact okx
  · rintro H' ⟨e, B', vs, xs, hD, rp, lg, hok⟩
    exact fin H' vs xs e B' hD rp lg hok
theorem RpAll.take {K : PySem.W.Frag} {H : Hp} : ∀ (n : Nat) {vs : List V} {ds : List D}, RpAll K H vs ds → RpAll K H (vs.take n) (ds.take n)
  | 0, _, _, _ => .nil
  | n + 1, _, _, .nil => .nil
  | n + 1, _, _, .cons r rs => .cons r (RpAll.take n rs)
abbrev sAny : Stmt := top 40
/-- a rulebook's size -/
def BSm (B : Bk) (n m : Nat) : Prop := B.kinds.length ≤ n ∧ B.rows.length ≤ m
def spAny (K : PySem.W.Frag) : Sp := fun vs H Q _ => ∃ (b c : Addr) (n m : Int), vs = [.ref b, .int n, .int m] ∧ 1 ≤ n ∧ n ≤ 15 ∧ 1 ≤ m ∧ m ≤ 15 ∧ BagC c H b ∧
  ∀ (p : Addr) (H' : Hp) (B : Bk), Ext b H H' → BagC c H' b → H p = none → Rp K H' (.ref p) B.d → BOk B → BSm B n.toNat m.toNat → Q (.ref p) H'
section
variable {P : Program} {w : World} {K : PySem.W.Frag} {mg : Str → Option Value} {base : Heap}
theorem scAny : FnScope ["_law_bag_here", "_law_kinds", "_law_rows", "_law_names", "_law_found", "_law_name", "_law_grounds", "_law_k"] ["_law_bag_here", "_law_kinds", "_law_rows"] (defScope sAny) := ⟨rfl, rfl, rfl, by decide +kernel, rfl, by decide +kernel, by decide +kernel⟩
theorem ok_any {f fT fS fN fG : Addr} {fd fdT fdS fdN fdG : FuncData} (F : Fun K "_law_any_rulebook" "_law_any_rulebook" sAny f fd) (T : TxtG K mg fT fS fdS) (O : TxtO mg) (GS : FnOk P w K mg base CX0 2 fS fdS ["_law_bag_here", "_law_things"] (spSome K))
    (GT : FnOk P w K mg base CX0 1 fT fdT ["_law_bag_here", "_law_upto"] spTake) (bT : L2.Binds K fdT ["_law_bag_here", "_law_upto"] [])
    (gN : mg "_law_named" = some (.ref fN)) (bN : L2.Binds K fdN ["_law_bag_here", "_law_many"] []) (kN : PySem.W.keepIn K (.ref fN) = true) (GN : FnOk P w K mg base CX0 3 fN fdN ["_law_bag_here", "_law_many"] spNamed)
    (gG : mg "_law_ground" = some (.ref fG)) (bG : L2.Binds K fdG ["_law_bag_here", "_law_rows", "_law_names"] []) (kG : PySem.W.keepIn K (.ref fG) = true) (GG : FnOk P w K mg base CX0 5 fG fdG ["_law_bag_here", "_law_rows", "_law_names"] (spGround K)) :
    FnOk P w K mg base CX0 6 f fd ["_law_bag_here", "_law_kinds", "_law_rows"] (spAny K) := by
  refine F.ok scAny (fun vs H Q E h => ?_) (fun cdv A outer s H vs Q E hr h => ?_)
  · obtain ⟨b, c, n, m, rfl, _⟩ := h
    rfl
  · obtain ⟨b, c, n, m, rfl, n1, n15, m1, m15, B, k⟩ := h
    have nd := scAny.nd
    have hr1 := hr.mono (by decide : 1 ≤ 5)
    have hr2 := hr.mono (by decide : 2 ≤ 5)
    have hr3 := hr.mono (by decide : 3 ≤ 5)
    have hu := hr.units
    refine ⟨_, pss_cons (ps_asg (pe_tup (pa_cons (pe_call GN hr3 rfl gN kN bN .nil pass0 (pa_cons (pv 0) (pa_cons (pe_op op_add pe_int (pe_call GT hr1 rfl T.b.gT T.b.kT bT .nil pass0 (pa_cons (pv 0) (pa_cons (pv 1) pa_nil)))) pa_nil))) (pa_cons (pe_call GN hr3 rfl gN kN bN .nil pass0 (pa_cons (pv 0) (pa_cons (pe_op op_add pe_int (pe_call GT hr1 rfl T.b.gT T.b.kT bT .nil pass0 (pa_cons (pv 0) (pa_cons (pv 2) pa_nil)))) pa_nil))) pa_nil)))
        (pg_tup rfl (pgs_cons (pg_name (i := 3) nd rfl (Or.inr rfl)) (pgs_cons (pg_name (i := 2) nd rfl (Or.inr rfl)) pgs_nil))))
      (pss_cons (ps_set (i := 4) nd rfl (Or.inl rfl) (pe_lst pa_nil))
      (pss_cons (ps_for PassesOwn.never rfl (pi_tup (pv 3)) (pg_name (i := 5) nd rfl (Or.inl rfl))
        (pss_cons (ps_setLc (i := 6) (own := [("_law_k", 7)]) (g := gName 7) (tt := tYes) (te := tCall (spGround K) [] E0 (tCons (tVar 0) (tCons (tVar 2) (tCons (tVar 3) tNil)))) rfl nd rfl rfl (sw_true rfl rfl rfl (by decide +kernel))
          (pi_range1 (by rfl) O.rng (pa_cons (pe_call GS hr2 rfl T.gS T.kS T.bS .nil pass0 (pa_cons (pv 0) (pa_cons (pe_lst (pa_cons pe_int (pa_cons pe_int (pa_cons pe_int (pa_cons pe_int (pa_cons pe_int (pa_cons pe_int pa_nil))))))) pa_nil))) pa_nil))
          (blkOk_by (own := [("_law_k", 7)]) (N := ["_law_bag_here", "_law_kinds", "_law_rows", "_law_names", "_law_found", "_law_name", "_law_grounds", "_law_k"]) (sc := defScope sAny) (by decide +kernel))
          (fun _ _ _ _ _ => pg_name (i := 7) nd rfl (Or.inl rfl)) (fun _ _ _ _ _ => pts_nil) (fun _ _ _ _ _ => pe_call GG hr rfl gG kG bG .nil pass0 (pa_cons (pv 0) (pa_cons (pv 2) (pa_cons (pv 3) pa_nil)))))
        (C8.pss_cut (ps_if (pt_cmpR op_eq (pe_call GT hr1 rfl T.b.gT T.b.kT bT .nil pass0 (pa_cons (pv 0) (pa_cons pe_int pa_nil))) pe_int (nomark _))
          (pss_one (ps_set (i := 6) nd rfl (Or.inl rfl) (pe_op op_cat (pe_slice sl_list (pv 6) po_none (po_some pe_int)) (pe_lst (pa_cons (pe_tup (pa_cons (pe_tup (pa_cons pe_str (pa_cons (pe_call GS hr2 rfl T.gS T.kS T.bS .nil pass0 (pa_cons (pv 0) (pa_cons (pv 2) pa_nil))) (pa_cons (pe_call GT hr1 rfl T.b.gT T.b.kT bT .nil pass0 (pa_cons (pv 0) (pa_cons pe_int pa_nil))) (pa_cons pe_int pa_nil))))) pa_nil)) pa_nil))))) pss_nil)
        (pss_one (ps_expr (by exact (pe_bm PySem.F.plainAttrs_list PySem.F.slot_list_append PySem.F.type_list_append mt_append (pv 4) (pa_cons (pe_tup (pa_cons (pv 5) (pa_cons (pe_op op_add pe_int (pe_call GT hr1 rfl T.b.gT T.b.kT bT .nil pass0 (pa_cons (pv 0) (pa_cons pe_int pa_nil))))
          (pa_cons (pe_call GS hr2 rfl T.gS T.kS T.bS .nil pass0 (pa_cons (pv 0) (pa_cons (pe_lst (pa_cons pe_int (pa_cons pe_int (pa_cons pe_int (pa_cons pe_int (pa_cons pe_int (pa_cons pe_int pa_nil))))))) pa_nil)))
          (pa_cons (pe_tupleOf (by rfl) O.tup (pe_callB (Ns.cr_sortedN rfl hu) (by rfl) O.srt (by decide +kernel) (pa_cons (pe_callTy (Ns.cr_setN rfl hu) (by rfl) O.set (by decide +kernel) (pa_cons (pv 6) pa_nil)) pa_nil))) pa_nil))))) pa_nil))))))))
      (pss_one (ps_ret (pe_tup (pa_cons (pv 2) (pa_cons (pe_tupleOf (by rfl) O.tup (pv 4)) pa_nil))))))), ?_⟩
    refine ⟨_, rfl, _, rfl, _, rfl, b, c, n, rfl, by omega, by omega, B, fun r1 H1 r10 r11 e1 B1 => ⟨1, r1, rfl, rfl, b, c, (1 + r1).toNat, (by rw [Int.toNat_of_nonneg (by omega : 0 ≤ 1 + r1)]; rfl), B1, fun p1 H2 ns e2 B2 np1 hp1 N1 => ?_⟩⟩
    refine ⟨_, rfl, _, rfl, _, rfl, b, c, m, rfl, by omega, by omega, B2, fun r2 H3 r20 r21 e3 B3 => ⟨1, r2, rfl, rfl, b, c, (1 + r2).toNat, (by rw [Int.toNat_of_nonneg (by omega : 0 ≤ 1 + r2)]; rfl), B3, fun p2 H4 rs e4 B4 np2 hp2 N2 => ?_⟩⟩
    refine ⟨by show 2 ≤ sizeLine; decide, fun q nq => ?_⟩
    have s5 : Same H4 (upd H4 q (.tup [.ref p1, .ref p2])) := same_new (Same.refl H4) nq
    have h5 : upd H4 q (.tup [.ref p1, .ref p2]) q = some (.tup [.ref p1, .ref p2]) := upd_same
    generalize upd H4 q (.tup [.ref p1, .ref p2]) = H5 at s5 h5
    refine ⟨q, _, rfl, SqT.of h5, rfl, _, _, rfl, _, _, rfl, rfl, ?_⟩
    have E5 : Ext b H H5 := (((e1.trans' e2).trans' e3).trans' e4).trans' (ext_same s5)
    have B5 := B4.same s5
    have hn5 : H5 p1 = some (.tup (ns.map V.str)) := (((B2.tups e3).trans (B3.tups e4)).trans (.same s5)) _ _ hp1
    have hr5 : H5 p2 = some (.tup (rs.map V.str)) := s5 _ _ hp2
    have okN := N1.ok (by omega)
    have okR := N2.ok (by omega)
    have st5 : Stock H5 p2 p1 rs ns := ⟨hr5, hn5, okR.ne, okN.ne, by have := okR.len; omega, by have := okN.len; omega⟩
    refine ⟨Nat.zero_le _, fun L nL => ?_⟩
    have nLb : L ≠ b := ne_at nL B5.hbs
    have nLc : L ≠ c := ne_at nL B5.hcs
    have nL0 : H L = none := E5.dom' B5 L nL
    have T6 : Tups H5 (upd H5 L (.lst [])) := fun a xs h => by rw [upd_ne (ne_of_none h nL)]; exact h
    try dsimp only
    show tSeq _ _ _ [some (.ref b), some (.int n), some (.ref p2), some (.ref p1), some (.ref L), none, none, none] (upd H5 L (.lst []))
    refine ⟨_, rfl, p1, rfl, ⟨_, SqT.of (T6 _ _ hn5)⟩, for_tup (xs := ns.map V.str) (fun i σ' H' => (∃ x5 x6 x7, σ' = [some (.ref b), some (.int n), some (.ref p2), some (.ref p1), some (.ref L), x5, x6, x7]) ∧ Ext b H H' ∧ BagC c H' b ∧ Tups H5 H' ∧
        ∃ (vs : List V) (ks : List Kd), H' L = some (.lst vs) ∧ RpAll K H' vs (ks.map Kd.d) ∧ ks.map Kd.name = ns.take i ∧ ∀ k ∈ ks, KOk rs ns k)
      ⟨⟨_, _, _, rfl⟩, ext_put E5 nL0, B5.put nLb nLc, T6, [], [], upd_same, .nil, rfl, fun x m => absurd m List.not_mem_nil⟩ (fun i σ' H' _ z => SqT.of (z.2.2.2.1 _ _ hn5)) ?_ ?_⟩
    · rintro i x σ' H6 hi ⟨⟨x5, x6, x7, rfl⟩, E6, B6, T6', vs, ks, hL, rp, nm, oks⟩
      obtain ⟨y, hy, rfl⟩ : ∃ y, ns[i]? = some y ∧ x = .str y := by
        rw [List.getElem?_map] at hi
        cases z : ns[i]? with
        | none => rw [z] at hi; cases hi
        | some y =>
          rw [z] at hi
          exact ⟨y, rfl, (Option.some.inj hi).symm⟩
      try dsimp only
      show tSeq _ _ _ [some (.ref b), some (.int n), some (.ref p2), some (.ref p1), some (.ref L), some (.str y), x6, x7] H6
      refine some_const (G := IntIn 0 4) (vs := ([1, 2, 2, 3, 4, 0] : List Int).map V.int) rfl B6 (fun Q' q => q) (by simp) (by simp) (ints_in (by decide)) fun v H7 hv e7 B7 => ?_
      obtain ⟨j, rfl, j0, j4⟩ := hv
      refine ⟨j, rfl, by omega, by omega, fun G nG => ?_⟩
      have T7 := T6'.trans (B6.tups e7)
      refine lc_draw (n := j.toNat) gd (fun g => (key_kb _ (gd_key g).1).2.1) (GOk rs ns 3) nG B7 (by omega) (fun i H' Q' e' B' k' => ⟨_, rfl, _, rfl, _, rfl, b, c, p2, p1, rs, ns, rfl, B', st5.tups (T7.trans (B7.tups e')), fun p H2 g e2 B2 _ rp ok => k' p H2 g e2 B2 rp ok⟩) fun H8 gvs gs e8 B8 hG rg lg okg => ?_
      have e68 := e7.trans' e8
      have hL8 : H8 L = some (.lst vs) := e68 L _ nLb hL
      have rp8 : RpAll K H8 vs (ks.map Kd.d) := rp.tups (B6.tups e68) (kds_flat ks)
      have T8 := T6'.trans (B6.tups e68)
      try dsimp only
      show C8.tCut _ _ _ [some (.ref b), some (.int n), some (.ref p2), some (.ref p1), some (.ref L), some (.str y), some (.ref G), x7] H8
      refine ⟨fun σ' H' => ∃ (G' : Addr) (gvs' : List V) (gs' : List (List Nd)), σ' = [some (.ref b), some (.int n), some (.ref p2), some (.ref p1), some (.ref L), some (.str y), some (.ref G'), x7] ∧ Ext b H8 H' ∧ BagC c H' b ∧ H' G' = some (.lst gvs') ∧ RpAll K H' gvs' (gs'.map gd) ∧ gs'.length ≤ 4 ∧ ∀ g ∈ gs', GOk rs ns 3 g, ?_, ?_⟩
      · refine ⟨_, rfl, b, c, 3, rfl, by decide, by decide, B8, fun z H9 z0 z3 e9 B9 => ⟨rfl, _, rfl, ite2 (fun _ => ?_) fun _ => ?_⟩⟩
        · have T9 := T8.trans (B8.tups e9)
          have hG9 := e9 G _ (ne_at nG B7.hbs) hG
          refine ⟨_, rfl, _, rfl, G, gvs, rfl, SqL.of hG9, fun p np => ?_⟩
          have sA : Same H9 (upd H9 p (.lst (cutV gvs none (some 3)))) := same_new (Same.refl H9) np
          have hA : upd H9 p (.lst (cutV gvs none (some 3))) p = some (.lst (gvs.take 3)) := by rw [upd_same]; exact congrArg (fun l => some (HO.lst l)) (cut_take gvs 3)
          generalize upd H9 p (.lst (cutV gvs none (some 3))) = HA at sA hA
          have BA := B9.same sA
          have TA := T9.trans (.same sA)
          have npb : p ≠ b := ne_at np B9.hbs
          refine some_strs (i := 0) (j := 2) rfl rfl BA (TA _ _ hr5) okR.ne (by have := okR.len; omega) fun x HB hx eB BB => ?_
          refine ⟨_, rfl, b, c, 5, rfl, by decide, by decide, BB, fun t HC t0 t5 eC BC => ⟨by show 4 ≤ sizeLine; decide, fun q1 nq1 => ?_⟩⟩
          have s1 : Same HC (upd HC q1 (.tup [.str "row", .str x, .int t, .int 9])) := same_new (Same.refl HC) nq1
          have g1 : upd HC q1 (.tup [.str "row", .str x, .int t, .int 9]) q1 = some (.tup [.str "row", .str x, .int t, .int 9]) := upd_same
          generalize upd HC q1 (.tup [.str "row", .str x, .int t, .int 9]) = HD at s1 g1
          refine ⟨by show 1 ≤ sizeLine; decide, fun q2 nq2 => ?_⟩
          have s2 : Same HD (upd HD q2 (.tup [.ref q1])) := same_new (Same.refl HD) nq2
          have g2 : upd HD q2 (.tup [.ref q1]) q2 = some (.tup [.ref q1]) := upd_same
          generalize upd HD q2 (.tup [.ref q1]) = HE at s2 g2
          refine ⟨by show 1 ≤ sizeLine; decide, fun q3 nq3 => ?_⟩
          have s3 : Same HE (upd HE q3 (.lst [.ref q2])) := same_new (Same.refl HE) nq3
          have g3 : upd HE q3 (.lst [.ref q2]) q3 = some (.lst [.ref q2]) := upd_same
          generalize upd HE q3 (.lst [.ref q2]) = HF at s3 g3
          have eAF : Ext b HA HF := (eB.trans' eC).trans' (ext_same ((s1.trans s2).trans s3))
          have BF := BC.same ((s1.trans s2).trans s3)
          refine ⟨p, q3, gvs.take 3, [.ref q2], rfl, rfl, eAF p _ npb hA, g3, by rw [List.length_take, sizeLine_eq]; simp only [List.length_cons, List.length_nil]; omega, fun p4 np4 => ?_⟩
          have s4 : Same HF (upd HF p4 (.lst (gvs.take 3 ++ [.ref q2]))) := same_new (Same.refl HF) np4
          have eall : Ext b H8 (upd HF p4 (.lst (gvs.take 3 ++ [.ref q2]))) := ((e9.trans' (ext_same sA)).trans' eAF).trans' (ext_same s4)
          refine ⟨p4, gvs.take 3 ++ [.ref q2], gs.take 3 ++ [[.row x t 9]], rfl, eall, BF.same s4, upd_same, ?_, by rw [List.length_append, List.length_take]; simp only [List.length_cons, List.length_nil]; omega, fun g hg => ?_⟩
          · rw [List.map_append, List.map_take]
            refine (RpAll.take 3 (rg.tups (B8.tups eall) (gds_flat gs))).append (.cons (.tup (s4 _ _ (s3 _ _ g2)) (.cons (.tup (s4 _ _ (s3 _ _ (s2 _ _ g1))) (.cons (.str _) (.cons (.str _) (.cons (.int _) (.cons (.int _) .nil))))) .nil)) .nil)
          · rcases List.mem_append.mp hg with z | z
            · exact okg g (List.mem_of_mem_take z)
            · rw [List.mem_singleton.mp z]
              exact ⟨by simp, by show 1 ≤ 3; decide, fun u hu => by rw [List.mem_singleton.mp hu]; exact ⟨hx, ⟨t0, by omega⟩, by decide⟩, by simp, List.pairwise_singleton _ _⟩
        · exact ⟨G, gvs, gs, rfl, e9, B9, e9 G _ (ne_at nG B7.hbs) hG, rg.tups (B8.tups e9) (gds_flat gs), by omega, okg⟩
      · rintro σ' H9 ⟨G', gvs', gs', rfl, e9, B9, hG', rg', lg', okg'⟩
        have hL9 := e9 L _ nLb hL8
        have T9 := T8.trans (B8.tups e9)
        have lk : ks.length ≤ 15 := by
          have e := congrArg List.length nm
          rw [List.length_map, List.length_take] at e
          have := okN.len
          omega
        refine ⟨_, rfl, .inl ⟨rfl, _, SqL.of hL9⟩, _, rfl, _, rfl, b, c, 8, rfl, by decide, by decide, B9, fun r HA r0 r8 eA BA => ⟨1, r, rfl, rfl, ?_⟩⟩
        refine some_const (G := IntIn 0 12) (i := 0) (vs := ([0, 0, 1, 2, 5, 12] : List Int).map V.int) rfl BA (fun Q' q => q) (by simp) (by simp) (ints_in (by decide)) fun v HB hv eB BB => ?_
        obtain ⟨w', rfl, w0, w12⟩ := hv
        have e9B := eA.trans' eB
        have nGb : G' ≠ b := fun z => by
          obtain ⟨x0, x1, x2, ms, hb9⟩ := B9
          have q1 := hb9.hb
          rw [← z, hG'] at q1
          cases q1
          cases gs' with
          | nil => cases rg'
          | cons g0 gr =>
            cases rg' with
            | cons r1 _ =>
              have r2 : Rp K H9 (.int x0) (.tup (g0.map Nd.d)) := r1
              cases r2
        have hGB := e9B G' _ nGb hG'
        have rgB := rg'.tups (B9.tups e9B) (gds_flat gs')
        refine ⟨_, rfl, once_go (.inl hGB) rgB (fit_gds (fun g hg => (okg' g hg).ne) (by omega)) fun q HC vs' es sC nq hq rpq on => ?_⟩
        obtain ⟨gs2, rfl, ok2, len2, nd2, asc2⟩ := once_gs (n := 4) lg' okg' on
        refine ⟨by show 4 ≤ sizeLine; decide, fun t nt => ?_⟩
        have sD : Same HC (upd HC t (.tup [.str y, .int (1 + r), .int w', .ref q])) := same_new (Same.refl HC) nt
        have hD : upd HC t (.tup [.str y, .int (1 + r), .int w', .ref q]) t = some (.tup [.str y, .int (1 + r), .int w', .ref q]) := upd_same
        generalize upd HC t (.tup [.str y, .int (1 + r), .int w', .ref q]) = HD at sD hD
        have e9D : Ext b H9 HD := e9B.trans' (ext_same (sC.trans sD))
        have hLD := e9D L _ nLb hL9
        have BD := BB.same (sC.trans sD)
        have lv : vs.length ≤ 15 := by rw [rp.len, List.length_map]; exact lk
        refine ⟨L, vs, .ref t, rfl, rfl, hLD, by rw [sizeLine_eq]; omega, ?_⟩
        have TP : Tups HD (upd HD L (.lst (vs ++ [.ref t]))) := Tups.put hLD
        refine ⟨⟨_, _, _, rfl⟩, ext_put (((E6.trans' e68).trans' e9).trans' e9D) nL0, BD.put nLb nLc, (T9.trans (B9.tups e9D)).trans TP, vs ++ [.ref t], ks ++ [⟨y, 1 + r, w', gs2⟩], upd_same, ?_, ?_, fun k' hk' => ?_⟩
        · rw [List.map_append]
          refine (rp8.tups ((B8.tups (e9.trans' e9D)).trans TP) (kds_flat ks)).append (.cons (.tup (TP _ _ hD) (.cons (.str y) (.cons (.int _) (.cons (.int _) (.cons (.tup (TP _ _ (sD _ _ hq)) (RpAll.tups ((Tups.same sD).trans TP) rpq (gds_flat gs2))) .nil))))) .nil)
        · rw [List.map_append, nm, List.take_succ, hy]
          rfl
        · rcases List.mem_append.mp hk' with z | z
          · exact oks k' z
          · rw [List.mem_singleton.mp z]
            exact ⟨⟨by show 1 ≤ 1 + r; omega, by show 1 + r ≤ 8; omega⟩, ⟨w0, w12⟩, ok2, len2, nd2, asc2⟩
    · rintro σ' H6 ⟨⟨x5, x6, x7, rfl⟩, E6, B6, T6', vs, ks, hL, rp, nm, oks⟩
      rw [List.length_map, List.take_length] at nm
      refine ⟨_, rfl, _, rfl, .inl ⟨L, vs, rfl, SqL.of hL, fun t nt => ⟨by show 2 ≤ sizeLine; decide, fun u nu => ?_⟩⟩⟩
      have s1 : Same H6 (upd H6 t (.tup vs)) := same_new (Same.refl H6) nt
      have g1 : upd H6 t (.tup vs) t = some (.tup vs) := upd_same
      generalize upd H6 t (.tup vs) = H7 at s1 g1 nu
      have s2 : Same H7 (upd H7 u (.tup [.ref p2, .ref t])) := same_new (Same.refl H7) nu
      have st := s1.trans s2
      refine k u _ ⟨rs, ks⟩ (E6.trans' (ext_same st)) (B6.same st) ((E6.trans' (ext_same s1)).dom' (B6.same s1) u nu) (.tup upd_same (.cons (.tup (st _ _ (T6' _ _ hr5)) (rp_of_strs rs)) (.cons (.tup (s2 _ _ g1) (RpAll.same st rp)) .nil))) ⟨okR, ?_, ?_⟩ ⟨?_, ?_⟩
      · show NamesOk (ks.map Kd.name)
        rw [nm]
        exact okN
      · show ∀ k ∈ ks, KOk rs (ks.map Kd.name) k
        rw [nm]
        exact oks
      · have e := congrArg List.length nm
        rw [List.length_map, N1.len] at e
        show ks.length ≤ n.toNat
        omega
      · show rs.length ≤ m.toNat
        rw [N2.len]
        omega
end
end Gy

namespace Gy
open PySem L2 PySem.Spec PyProof.Rows
abbrev sMore : Stmt := top 42
/-- no need, or one on the second row -/
def spMore (K : PySem.W.Frag) : Sp := fun vs H Q _ => ∃ (b c r : Addr) (u : V) (rows : List Str), vs = [.ref b, u, .ref r] ∧ BagC c H b ∧ H r = some (.tup (rows.map V.str)) ∧ rows.length = 2 ∧
  ∀ (p : Addr) (H' : Hp) (ys : List V) (g : List Nd), Ext b H H' → BagC c H' b → H p = none → H' p = some (.lst ys) → RpAll K H' ys (g.map Nd.d) → g.length ≤ 1 → (∀ names, ∀ x ∈ g, x.ok rows names) → Q (.ref p) H'
section
variable {P : Program} {w : World} {K : PySem.W.Frag} {mg : Str → Option Value} {base : Heap}
theorem scMore : FnScope ["_law_bag_here", "_law_sort", "_law_rows"] ["_law_bag_here", "_law_sort", "_law_rows"] (defScope sMore) := ⟨rfl, rfl, rfl, by decide +kernel, rfl, by decide +kernel, by decide +kernel⟩
theorem ok_more {f fT fS : Addr} {fd fdT fdS : FuncData} (F : Fun K "_law_more_needs" "_law_more_needs" sMore f fd) (T : TxtG K mg fT fS fdS) (GS : FnOk P w K mg base CX0 2 fS fdS ["_law_bag_here", "_law_things"] (spSome K))
    (GT : FnOk P w K mg base CX0 1 fT fdT ["_law_bag_here", "_law_upto"] spTake) (bT : L2.Binds K fdT ["_law_bag_here", "_law_upto"] []) : FnOk P w K mg base CX0 3 f fd ["_law_bag_here", "_law_sort", "_law_rows"] (spMore K) := by
  refine F.ok scMore (fun vs H Q E h => ?_) (fun cdv A outer s H vs Q E hr h => ?_)
  · obtain ⟨b, c, r, u, rows, rfl, _⟩ := h
    rfl
  · obtain ⟨b, c, r, u, rows, rfl, B, hr0, l2, k⟩ := h
    have nd := scMore.nd
    have hr1 := hr.mono (by decide : 1 ≤ 2)
    refine ⟨_, pss_cons (ps_if (pt_cmpR op_gt (pe_call GT hr1 rfl T.b.gT T.b.kT bT .nil pass0 (pa_cons (pv 0) (pa_cons pe_int pa_nil))) pe_int (nomark _)) (pss_one (ps_ret (pe_lst pa_nil))) pss_nil)
      (pss_one (ps_ret (pe_lst (pa_cons (pe_tup (pa_cons pe_str (pa_cons (pe_ix ix_tup (pv 2) pe_int (fun _ _ => rfl)) (pa_cons (pe_call GT hr1 rfl T.b.gT T.b.kT bT .nil pass0 (pa_cons (pv 0) (pa_cons pe_int pa_nil)))
        (pa_cons (pe_call GS hr rfl T.gS T.kS T.bS .nil pass0 (pa_cons (pv 0) (pa_cons (pe_lst (pa_cons pe_int (pa_cons pe_int (pa_cons pe_int (pa_cons pe_int pa_nil))))) pa_nil))) pa_nil))))) pa_nil)))), ?_⟩
    refine ⟨_, rfl, b, c, 3, rfl, by decide, by decide, B, fun z H1 z0 z3 e1 B1 => ⟨z, 0, rfl, rfl, _, rfl, ite2 (fun _ => ?_) fun _ => ?_⟩⟩
    · refine ⟨Nat.zero_le _, fun p np => ?_⟩
      have s : Same H1 (upd H1 p (.lst [])) := same_new (Same.refl H1) np
      exact k p _ [] [] (e1.trans' (ext_same s)) (B1.same s) (e1.dom' B1 p np) upd_same .nil (Nat.zero_le _) fun _ x m => absurd m List.not_mem_nil
    · have hr1' := B.tups e1 _ _ hr0
      obtain ⟨r0, r1, rfl⟩ : ∃ r0 r1, rows = [r0, r1] := by
        match rows, l2 with
        | [x, y], _ => exact ⟨x, y, rfl⟩
      refine ⟨_, rfl, r, _, 1, .str r1, rfl, rfl, SqT.of hr1', atI_nat (j := 1) rfl, _, rfl, b, c, 5, rfl, by decide, by decide, B1, fun t H2 t0 t5 e2 B2 => ?_⟩
      refine some_const (G := IntIn 0 9) (i := 0) (vs := ([9, 9, 0, 4] : List Int).map V.int) rfl B2 (fun Q' q => q) (by simp) (by simp) (ints_in (by decide)) fun v H3 hv e3 B3 => ?_
      obtain ⟨m, rfl, m0, m9⟩ := hv
      refine ⟨by show 4 ≤ sizeLine; decide, fun q nq => ⟨by show 1 ≤ sizeLine; decide, fun p np => ?_⟩⟩
      have s1 : Same H3 (upd H3 q (.tup [.str "row", .str r1, .int t, .int m])) := same_new (Same.refl H3) nq
      have g1 : upd H3 q (.tup [.str "row", .str r1, .int t, .int m]) q = some (.tup [.str "row", .str r1, .int t, .int m]) := upd_same
      generalize upd H3 q (.tup [.str "row", .str r1, .int t, .int m]) = H4 at s1 g1 np
      have s2 : Same H4 (upd H4 p (.lst [.ref q])) := same_new (Same.refl H4) np
      have E := ((e1.trans' e2).trans' e3).trans' (ext_same s1)
      exact k p _ [.ref q] [.row r1 t m] (E.trans' (ext_same s2)) (B3.same (s1.trans s2)) (E.dom' (B3.same s1) p np) upd_same (.cons (.tup (s2 _ _ g1) (.cons (.str _) (.cons (.str _) (.cons (.int _) (.cons (.int _) .nil))))) .nil) (Nat.le_refl 1)
        fun _ x hx => by rw [List.mem_singleton.mp hx]; exact ⟨by simp, ⟨t0, by omega⟩, m0, m9⟩
end
end Gy

namespace Gy
open PySem L2 PySem.Spec PyProof.Rows
/-! ### a dict from names -/
theorem putK_keys {kvs : List (Key × V)} {k : Key} {v : V} : ∀ x, x ∈ kvs.map (·.1) ∨ x = k → x ∈ (putK kvs k v).map (·.1) := fun x h => by
  unfold putK
  split
  · rename_i hs
    rw [List.map_map]
    have e : (kvs.map ((fun kv : Key × V => kv.1) ∘ fun kv => if kv.1 = k then (kv.1, v) else kv)) = kvs.map (·.1) := List.map_congr_left fun kv _ => by
      show (if kv.1 = k then (kv.1, v) else kv).1 = kv.1
      split <;> rfl
    rw [e]
    rcases h with h | h
    · exact h
    · obtain ⟨kv, hk, hd⟩ := List.any_eq_true.mp hs
      rw [h, ← of_decide_eq_true hd]
      exact List.mem_map_of_mem hk
  · rw [List.map_append]
    rcases h with h | h
    · exact List.mem_append_left _ h
    · rw [h]
      exact List.mem_append_right _ List.mem_cons_self
theorem putK_vals {P : V → Prop} {kvs : List (Key × V)} {k : Key} {v : V} (h : ∀ kv ∈ kvs, P kv.2) (hv : P v) : ∀ kv ∈ putK kvs k v, P kv.2 := fun kv hk => by
  unfold putK at hk
  split at hk
  · obtain ⟨kv', hm, rfl⟩ := List.mem_map.mp hk
    split
    · exact hv
    · exact h kv' hm
  · rcases List.mem_append.mp hk with z | z
    · exact h kv z
    · rw [List.mem_singleton.mp z]
      exact hv
theorem merge_has {P : V → Prop} : ∀ (more acc : List (Key × V)), (∀ kv ∈ acc, P kv.2) → (∀ kv ∈ more, P kv.2) → ∀ k, (k ∈ acc.map (·.1) ∨ k ∈ more.map (·.1)) → ∃ v, valV (mergeK acc more) k = some v ∧ P v
  | [], acc, h1, _, k, hk => by
    have hk : k ∈ acc.map (·.1) := hk.elim id fun z => absurd z List.not_mem_nil
    show ∃ v, valV acc k = some v ∧ P v
    unfold valV
    cases e : acc.find? fun kv => decide (kv.1 = k) with
    | none =>
      obtain ⟨kv, hm, rfl⟩ := List.mem_map.mp hk
      have := List.find?_eq_none.mp e kv hm
      simp at this
    | some kv => exact ⟨kv.2, rfl, h1 kv (List.mem_of_find?_eq_some e)⟩
  | kv :: more, acc, h1, h2, k, hk => by
    refine merge_has more (putK acc kv.1 kv.2) (putK_vals h1 (h2 kv List.mem_cons_self)) (fun x m => h2 x (List.mem_cons_of_mem _ m)) k ?_
    rcases hk with z | z
    · exact .inl (putK_keys k (.inl z))
    · rw [List.map_cons] at z
      rcases List.mem_cons.mp z with y | y
      · exact .inl (putK_keys k (.inr y))
      · exact .inr y
/-- the dict at a tells of each of these names a number from lo to hi -/
def Dct (H : Hp) (a : Addr) (ns : List Str) (lo hi : Int) : Prop := ∃ kvs, H a = some (.dK kvs) ∧ ∀ x ∈ ns, ∃ z : Int, valV kvs (Sum.inr x) = some (.int z) ∧ lo ≤ z ∧ z ≤ hi
theorem Dct.ext {b a : Addr} {H H' : Hp} {ns : List Str} {lo hi : Int} (d : Dct H a ns lo hi) (hab : a ≠ b) (e : Ext b H H') : Dct H' a ns lo hi := let ⟨kvs, h, q⟩ := d; ⟨kvs, e a _ hab h, q⟩
theorem Dct.put {a p : Addr} {H : Hp} {l : List V} {o : HO} {ns : List Str} {lo hi : Int} (d : Dct H a ns lo hi) (hp : H p = some (.lst l)) : Dct (upd H p o) a ns lo hi := by
  obtain ⟨kvs, h, q⟩ := d
  exact ⟨kvs, by rw [upd_ne (fun z => by rw [z, hp] at h; cases h)]; exact h, q⟩
theorem Dct.ne {b c a : Addr} {H : Hp} {ns : List Str} {lo hi : Int} (d : Dct H a ns lo hi) (B : BagC c H b) : a ≠ b := fun z => by
  obtain ⟨kvs, h, _⟩ := d
  obtain ⟨l, hl⟩ := B.lst
  rw [z, hl] at h
  cases h
theorem Dct.get {a : Addr} {H : Hp} {ns : List Str} {lo hi : Int} {x : Str} (d : Dct H a ns lo hi) (hx : x ∈ ns) : ∃ z : Int, DGet H a (.str x) (some (.int z)) ∧ lo ≤ z ∧ z ≤ hi := by
  obtain ⟨kvs, h, q⟩ := d
  obtain ⟨z, e, h1, h2⟩ := q x hx
  refine ⟨z, ?_, h1, h2⟩
  rw [← e]
  exact DGet.k (k := Sum.inr x) h
end Gy

namespace Gy
open PySem L2 PySem.Spec PyProof.Rows
theorem RpAll.at {K : PySem.W.Frag} {H : Hp} : ∀ {vs : List V} {ds : List D} {i : Nat} {v : V}, RpAll K H vs ds → vs[i]? = some v → ∃ d, ds[i]? = some d ∧ Rp K H v d
  | _, _, _, _, .nil, h => by simp at h
  | _, _, 0, _, .cons r _, h => by
    simp only [List.getElem?_cons_zero, Option.some.injEq] at h
    subst h
    exact ⟨_, rfl, r⟩
  | _, _, i + 1, _, .cons _ rs, h => RpAll.at (i := i) rs (by simpa using h)
/-- an if whose test changes nothing that matters -/
theorem st_or {Pc : Hp → Prop} {c : TT} {t : TS} {D : Ends} {σ : L2.St} {H : Hp} (hc : ∀ Q : Bool → Hp → Prop, (∀ k H', Pc H' → Q k H') → c σ H Q) (ht : ∀ H', Pc H' → t D σ H') (hn : ∀ H', Pc H' → D.nx σ H') : tIfS c t tNext D σ H := hc _ fun k H' p => by
  cases k with
  | true => exact iteT (ht H' p)
  | false => exact iteF (hn H' p)
abbrev sThreaded : Stmt := top 43
def spThreaded (K : PySem.W.Frag) : Sp := fun vs H Q _ => ∃ (b c : Addr) (n : Int), vs = [.ref b, .int n] ∧ 1 ≤ n ∧ n ≤ 15 ∧ BagC c H b ∧
  ∀ (p : Addr) (H' : Hp) (B : Bk), Ext b H H' → BagC c H' b → H p = none → Rp K H' (.ref p) B.d → BOk B → BSm B n.toNat 2 → Q (.ref p) H'
section
variable {P : Program} {w : World} {K : PySem.W.Frag} {mg : Str → Option Value} {base : Heap}
theorem scThreaded : FnScope ["_law_bag_here", "_law_kinds", "_law_names", "_law_rows", "_law_least", "_law_found", "_law_k", "_law_name", "_law_grounds", "_law_giver", "_law_tell", "_law_ground_here"] ["_law_bag_here", "_law_kinds"] (defScope sThreaded) := ⟨rfl, rfl, rfl, by decide +kernel, rfl, by decide +kernel, by decide +kernel⟩
theorem ok_threaded {f fT fS fN fM : Addr} {fd fdT fdS fdN fdM : FuncData} (F : Fun K "_law_threaded" "_law_threaded" sThreaded f fd) (T : TxtG K mg fT fS fdS) (O : TxtO mg) (dct : mg "dict" = none) (GS : FnOk P w K mg base CX0 2 fS fdS ["_law_bag_here", "_law_things"] (spSome K))
    (GT : FnOk P w K mg base CX0 1 fT fdT ["_law_bag_here", "_law_upto"] spTake) (bT : L2.Binds K fdT ["_law_bag_here", "_law_upto"] [])
    (gN : mg "_law_named" = some (.ref fN)) (bN : L2.Binds K fdN ["_law_bag_here", "_law_many"] []) (kN : PySem.W.keepIn K (.ref fN) = true) (GN : FnOk P w K mg base CX0 3 fN fdN ["_law_bag_here", "_law_many"] spNamed)
    (gM : mg "_law_mixed" = some (.ref fM)) (bM : L2.Binds K fdM ["_law_bag_here", "_law_things"] []) (kM : PySem.W.keepIn K (.ref fM) = true) (GM : FnOk P w K mg base CX0 2 fM fdM ["_law_bag_here", "_law_things"] spMixed) :
    FnOk P w K mg base CX0 4 f fd ["_law_bag_here", "_law_kinds"] (spThreaded K) := by
  refine F.ok scThreaded (fun vs H Q E h => ?_) (fun cdv A outer s H vs Q E hr h => ?_)
  · obtain ⟨b, c, n, rfl, _⟩ := h
    rfl
  · obtain ⟨b, c, n, rfl, n1, n15, B, k⟩ := h
    have nd := scThreaded.nd
    have hr1 := hr.mono (by decide : 1 ≤ 3)
    have hr2 := hr.mono (by decide : 2 ≤ 3)
    have hr3 := hr
    have hu := hr.units
    have hu0 := hu_of hr
    refine ⟨_, (pss_cons (ps_asg (pe_tup (pa_cons (pe_call GN hr3 rfl gN kN bN .nil pass0 (pa_cons (pv 0) (pa_cons (pe_op op_add pe_int (pe_call GT hr1 rfl T.b.gT T.b.kT bT .nil pass0 (pa_cons (pv 0) (pa_cons (pv 1) pa_nil)))) pa_nil))) (pa_cons (pe_call GN hr3 rfl gN kN bN .nil pass0 (pa_cons (pv 0) (pa_cons pe_int pa_nil))) pa_nil))) (pg_tup rfl (pgs_cons (pg_name (i := 2) nd rfl (Or.inl rfl)) (pgs_cons (pg_name (i := 3) nd rfl (Or.inr rfl)) pgs_nil)))) (pss_cons (ps_par (i := 4) (j := 5) rfl nd rfl rfl (by decide) rfl rfl (pa_cons (pe_callTy (call_dictP rfl) (by rfl) dct (by decide +kernel) (pa_cons (pe_lc (own := [("_law_name", 7)]) (g := gName 7) (tt := tYes) rfl nd (pi_tup (pv 2)) (blkOk_by (own := [("_law_name", 7)]) (N := ["_law_bag_here", "_law_kinds", "_law_names", "_law_rows", "_law_least", "_law_found", "_law_k", "_law_name", "_law_grounds", "_law_giver", "_law_tell", "_law_ground_here"]) (sc := defScope sThreaded) (by decide +kernel)) (fun _ _ _ _ _ => (pg_name (i := 7) nd rfl (Or.inl rfl))) (fun _ _ _ _ _ => pts_nil) (fun _ _ _ _ _ => (pe_tup (pa_cons (pv 7) (pa_cons (pe_op op_add pe_int (pe_call GT hr1 rfl T.b.gT T.b.kT bT .nil pass0 (pa_cons (pv 0) (pa_cons pe_int pa_nil)))) pa_nil))))) pa_nil)) (pa_cons (pe_lst pa_nil) pa_nil)) (by rfl)) (pss_cons (ps_for PassesOwn.never rfl (pi_range1 (by rfl) O.rng (pa_cons (pe_callB call_len_seq (by rfl) T.b.a.len PySem.boot_len (pa_cons (pv 2) pa_nil)) pa_nil)) (pg_name (i := 6) nd rfl (Or.inl rfl)) (pss_cons (ps_par (i := 7) (j := 8) rfl nd rfl rfl (by decide) rfl rfl (pa_cons (pe_ix ix_tup (pv 2) (pv 6) (fun _ _ => rfl)) (pa_cons (pe_lst pa_nil) pa_nil)) (by rfl)) (C8.pss_cut (ps_for PassesOwn.never rfl (pi_list (pe_slice sl_list (pe_call GM hr2 rfl gM kM bM .nil pass0 (pa_cons (pv 0) (pa_cons (pv 2) pa_nil))) po_none (po_some (pe_call GS hr2 rfl T.gS T.kS T.bS .nil pass0 (pa_cons (pv 0) (pa_cons (pe_lst (pa_cons pe_int (pa_cons pe_int (pa_cons pe_int (pa_cons pe_int (pa_cons pe_int pa_nil)))))) pa_nil)))))) (pg_name (i := 9) nd rfl (Or.inl rfl)) (pss_cons (ps_set (i := 10) nd rfl (Or.inl rfl) (pe_op op_add (pe_dget hu0 (pv 4) (pv 7) (fun _ _ => rfl)) (pe_op op_mul (pe_call GS hr2 rfl T.gS T.kS T.bS .nil pass0 (pa_cons (pv 0) (pa_cons (pe_lst (pa_cons pe_int (pa_cons pe_int (pa_cons pe_int pa_nil)))) pa_nil))) (pe_callTy call_int1 (by rfl) T.b.a.int (by decide +kernel) (pa_cons (pe_cmpR op_lt (pe_dget hu0 (pv 4) (pv 7) (fun _ _ => rfl)) pe_int (nomark _)) pa_nil))))) (pss_one (ps_expr (by exact (pe_bm PySem.F.plainAttrs_list PySem.F.slot_list_append PySem.F.type_list_append mt_append (pv 8) (pa_cons (pe_tup (pa_cons (pe_tup (pa_cons pe_str (pa_cons (pv 9) (pa_cons (pe_op op_add pe_int (pe_call GT hr1 rfl T.b.gT T.b.kT bT .nil pass0 (pa_cons (pv 0) (pa_cons (pe_dget hu0 (pv 4) (pv 9) (fun _ _ => rfl)) pa_nil)))) (pa_cons (pv 10) (pa_cons pe_int pa_nil)))))) pa_nil)) pa_nil))))))) (C8.pss_cut (ps_if (PW.pt (pw_or (pt_cmpR op_eq (pv 6) pe_int (nomark _)) (pw_or1 (pt_cmpR op_eq (pe_call GT hr1 rfl T.b.gT T.b.kT bT .nil pass0 (pa_cons (pv 0) (pa_cons pe_int pa_nil))) pe_int (nomark _))))) (pss_one (ps_expr (by exact (pe_bm PySem.F.plainAttrs_list PySem.F.slot_list_append PySem.F.type_list_append mt_append (pv 8) (pa_cons (pe_tup (pa_cons (pe_tup (pa_cons pe_str (pa_cons (pe_ix ix_tup (pv 3) pe_int (fun _ _ => rfl)) (pa_cons (pe_call GT hr1 rfl T.b.gT T.b.kT bT .nil pass0 (pa_cons (pv 0) (pa_cons pe_int pa_nil))) (pa_cons pe_int pa_nil))))) pa_nil)) pa_nil))))) pss_nil) (C8.pss_cut (ps_if (pt_cmpR op_eq (pe_call GT hr1 rfl T.b.gT T.b.kT bT .nil pass0 (pa_cons (pv 0) (pa_cons pe_int pa_nil))) pe_int (nomark _)) (pss_one (ps_setLc (i := 8) (own := [("_law_ground_here", 11)]) (g := gName 11) (tt := tYes) (te := tOnce K w (tOp (rCatT K) (tVar 11) (tTup (tCons (tTup (tCons (tC (.str "row")) (tCons (tOp (rIxT K) (tVar 3) (tC (.int 1))) (tCons (tC (.int 1)) (tCons (tC (.int 3)) tNil))))) tNil)))) rfl nd rfl rfl (sw_true rfl rfl rfl (by decide +kernel)) (pi_list (pv 8)) (blkOk_by (own := [("_law_ground_here", 11)]) (N := ["_law_bag_here", "_law_kinds", "_law_names", "_law_rows", "_law_least", "_law_found", "_law_k", "_law_name", "_law_grounds", "_law_giver", "_law_tell", "_law_ground_here"]) (sc := defScope sThreaded) (by decide +kernel)) (fun _ _ _ _ _ => (pg_name (i := 11) nd rfl (Or.inl rfl))) (fun _ _ _ _ _ => pts_nil) (fun _ _ _ _ _ => (pe_tupleOf (by rfl) O.tup (pe_callB (Ns.cr_sortedN rfl hu) (by rfl) O.srt (by decide +kernel) (pa_cons (pe_callTy (Ns.cr_setN rfl hu) (by rfl) O.set (by decide +kernel) (pa_cons (pe_op op_catT (pv 11) (pe_tup (pa_cons (pe_tup (pa_cons pe_str (pa_cons (pe_ix ix_tup (pv 3) pe_int (fun _ _ => rfl)) (pa_cons pe_int (pa_cons pe_int pa_nil))))) pa_nil))) pa_nil)) pa_nil)))))) pss_nil) (pss_one (ps_expr (by exact (pe_bm PySem.F.plainAttrs_list PySem.F.slot_list_append PySem.F.type_list_append mt_append (pv 5) (pa_cons (pe_tup (pa_cons (pv 7) (pa_cons (pe_op op_add pe_int (pe_call GT hr1 rfl T.b.gT T.b.kT bT .nil pass0 (pa_cons (pv 0) (pa_cons pe_int pa_nil)))) (pa_cons (pe_call GS hr2 rfl T.gS T.kS T.bS .nil pass0 (pa_cons (pv 0) (pa_cons (pe_lst (pa_cons pe_int (pa_cons pe_int (pa_cons pe_int (pa_cons pe_int (pa_cons pe_int (pa_cons pe_int pa_nil))))))) pa_nil))) (pa_cons (pe_tupleOf (by rfl) O.tup (pe_callB (Ns.cr_sortedN rfl hu) (by rfl) O.srt (by decide +kernel) (pa_cons (pe_callTy (Ns.cr_setN rfl hu) (by rfl) O.set (by decide +kernel) (pa_cons (pv 8) pa_nil)) pa_nil))) pa_nil))))) pa_nil)))))))))) (pss_one (ps_ret (pe_tup (pa_cons (pv 3) (pa_cons (pe_tupleOf (by rfl) O.tup (pv 5)) pa_nil)))))))), ?_⟩
    refine ⟨_, rfl, _, rfl, _, rfl, b, c, n, rfl, by omega, by omega, B, fun r1 H1 r10 r11 e1 B1 => ⟨1, r1, rfl, rfl, b, c, (1 + r1).toNat, (by rw [Int.toNat_of_nonneg (by omega : 0 ≤ 1 + r1)]; rfl), B1, fun p1 H2 ns e2 B2 np1 hp1 N1 => ?_⟩⟩
    refine ⟨_, rfl, b, c, 2, rfl, B2, fun p2 H4 rs e4 B4 np2 hp2 N2 => ?_⟩
    refine ⟨by show 2 ≤ sizeLine; decide, fun q nq => ?_⟩
    have s5 : Same H4 (upd H4 q (.tup [.ref p1, .ref p2])) := same_new (Same.refl H4) nq
    have h5 : upd H4 q (.tup [.ref p1, .ref p2]) q = some (.tup [.ref p1, .ref p2]) := upd_same
    generalize upd H4 q (.tup [.ref p1, .ref p2]) = H5 at s5 h5
    refine ⟨q, _, rfl, SqT.of h5, rfl, _, _, rfl, _, _, rfl, rfl, ?_⟩
    have E5 : Ext b H H5 := ((e1.trans' e2).trans' e4).trans' (ext_same s5)
    have B5 := B4.same s5
    have hn5 : H5 p1 = some (.tup (ns.map V.str)) := ((B2.tups e4).trans (.same s5)) _ _ hp1
    have hr5 : H5 p2 = some (.tup (rs.map V.str)) := s5 _ _ hp2
    have okN := N1.ok (by omega)
    have okR := N2.ok (by decide)
    have nl := okN.len
    obtain ⟨ra, rb, ers⟩ : ∃ ra rb, rs = [ra, rb] := by
      have l2 := N2.len
      match rs, l2 with
      | [x, y], _ => exact ⟨x, y, rfl⟩
    try dsimp only
    show tSeq _ _ _ [some (.ref b), some (.int n), some (.ref p1), some (.ref p2), none, none, none, none, none, none, none, none] H5
    refine ⟨_, rfl, p1, rfl, ⟨_, SqT.of hn5⟩, fun D nD => ?_⟩
    have nDb : D ≠ b := ne_at nD B5.hbs
    have nDc : D ≠ c := ne_at nD B5.hcs
    refine lc_tup (xs := ns.map V.str) (fun i H' => Ext b H5 H' ∧ BagC c H' b ∧ ∃ (ps : List Addr) (kvs : List (Key × V)), H' D = some (.lst (ps.map V.ref)) ∧ ps.length = i ∧ kvs.map (·.1) = (ns.take i).map Sum.inr ∧ Paired (fun p kv => H' p = some (.tup [kV kv.1, kv.2])) ps kvs ∧ ∀ kv ∈ kvs, IntIn 1 3 kv.2)
      ⟨ext_put (Ext.refl' b H5) nD, B5.put nDb nDc, [], [], upd_same, rfl, rfl, .nil, fun x m => absurd m List.not_mem_nil⟩ (fun i H' _ z => SqT.of (B5.tups z.1 _ _ hn5)) ?_ ?_
    · rintro i x H' hi ⟨e, B', ps, kvs, hD, lp, kk, pr, iv⟩
      obtain ⟨y, hy, rfl⟩ : ∃ y, ns[i]? = some y ∧ x = .str y := by
        rw [List.getElem?_map] at hi
        cases z : ns[i]? with
        | none => rw [z] at hi; cases hi
        | some y =>
          rw [z] at hi
          exact ⟨y, rfl, (Option.some.inj hi).symm⟩
      have il : i < ns.length := (List.getElem?_eq_some_iff.mp hy).1
      refine ⟨rfl, tyes_go ⟨_, rfl, _, rfl, b, c, 3, rfl, by decide, by decide, B', fun z H6 z0 z3 e6 B6 => ⟨1, z, rfl, rfl, by show 2 ≤ sizeLine; decide, fun t nt => ?_⟩⟩⟩
      have s7 : Same H6 (upd H6 t (.tup [.str y, .int (1 + z)])) := same_new (Same.refl H6) nt
      have h7 : upd H6 t (.tup [.str y, .int (1 + z)]) t = some (.tup [.str y, .int (1 + z)]) := upd_same
      generalize upd H6 t (.tup [.str y, .int (1 + z)]) = H7 at s7 h7
      have hD7 := s7 _ _ (e6 D _ nDb hD)
      have TP : Tups H7 (upd H7 D (.lst (ps.map V.ref ++ [.ref t]))) := Tups.put hD7
      refine ⟨ps.map V.ref, hD7, by rw [List.length_map, lp, sizeLine_eq]; omega, ext_put ((e.trans' e6).trans' (ext_same s7)) nD, (B6.same s7).put nDb nDc, ps ++ [t], kvs ++ [(Sum.inr y, .int (1 + z))], by rw [upd_same, List.map_append]; rfl, by rw [List.length_append, lp]; rfl, ?_, ?_, fun kv hk => ?_⟩
      · rw [List.map_append, kk, List.take_succ, hy, List.map_append]
        rfl
      · exact Paired.snoc (Paired.mapP pr fun p kv h => TP _ _ (s7 _ _ (B'.tups e6 _ _ h))) (TP _ _ h7)
      · rcases List.mem_append.mp hk with u | u
        · exact iv kv u
        · rw [List.mem_singleton.mp u]
          exact ⟨1 + z, rfl, by omega, by omega⟩
    rintro H6 ⟨e6, B6, ps, kvs, hD, lp, kk, pr, iv⟩
    rw [List.length_map, List.take_length] at kk
    refine ⟨D, ps, kvs, rfl, SqL.of hD, Paired.mapP pr fun p kv h => SqT.of h, fun a na => ⟨Nat.zero_le _, fun L nL => ⟨_, _, rfl, ?_⟩⟩⟩
    have s7 : Same H6 (upd H6 a (.dK (mergeK [] kvs))) := same_new (Same.refl H6) na
    have h7 : upd H6 a (.dK (mergeK [] kvs)) a = some (.dK (mergeK [] kvs)) := upd_same
    generalize upd H6 a (.dK (mergeK [] kvs)) = H7 at s7 h7 nL
    have dct7 : Dct H7 a ns 1 3 := ⟨_, h7, fun x hx => by
      obtain ⟨v, e, z, rfl, z1, z3⟩ := merge_has (P := IntIn 1 3) kvs [] (fun kv m => absurd m List.not_mem_nil) iv (Sum.inr x) (.inr (by rw [kk]; exact List.mem_map_of_mem hx))
      exact ⟨z, e, z1, z3⟩⟩
    have B7 := B6.same s7
    have E7 : Ext b H H7 := (E5.trans' e6).trans' (ext_same s7)
    have T7 : Tups H5 H7 := (B5.tups e6).trans (.same s7)
    have nab := dct7.ne B7
    have nLb : L ≠ b := ne_at nL B7.hbs
    have nLc : L ≠ c := ne_at nL B7.hcs
    have nL0 : H L = none := E7.dom' B7 L nL
    have s8 : Same H7 (upd H7 L (.lst [])) := same_new (Same.refl H7) nL
    have h8 : upd H7 L (.lst []) L = some (.lst []) := upd_same
    generalize upd H7 L (.lst []) = H8 at s8 h8
    try dsimp only
    show tSeq _ _ _ [some (.ref b), some (.int n), some (.ref p1), some (.ref p2), some (.ref a), some (.ref L), none, none, none, none, none, none] H8
    have ez : (((ns.map V.str).length : Nat) : Int).toNat = ns.length := by rw [List.length_map]; rfl
    refine ⟨_, rfl, p1, ns.map V.str, rfl, .inr (SqT.of (s8 _ _ (T7 _ _ hn5))), _, rfl, by rw [List.length_map]; omega, by rw [List.length_map]; omega, ?_⟩
    rw [ez]
    refine for_range (n := ns.length) (fun i σ' H' => (∃ x6 x7 x8 x9 x10 x11, σ' = [some (.ref b), some (.int n), some (.ref p1), some (.ref p2), some (.ref a), some (.ref L), x6, x7, x8, x9, x10, x11]) ∧ Ext b H H' ∧ BagC c H' b ∧ Tups H5 H' ∧ Dct H' a ns 1 3 ∧
        ∃ (vs : List V) (ks : List Kd), H' L = some (.lst vs) ∧ RpAll K H' vs (ks.map Kd.d) ∧ ks.map Kd.name = ns.take i ∧ ∀ k ∈ ks, KOk rs ns k)
      ⟨⟨_, _, _, _, _, _, rfl⟩, E7.trans' (ext_same s8), B7.same s8, T7.trans (.same s8), dct7.ext nab (ext_same s8), [], [], h8, .nil, rfl, fun x m => absurd m List.not_mem_nil⟩ ?_ ?_
    · rintro i σ' Hi il ⟨⟨x6, x7, x8, x9, x10, x11, rfl⟩, Ei, Bi, Ti, di, vs, ks, hL, rp, nm, oks⟩
      obtain ⟨y, hy⟩ : ∃ y, ns[i]? = some y := ⟨_, List.getElem?_eq_getElem il⟩
      have yin : y ∈ ns := List.mem_of_getElem? hy
      try dsimp only
      show tSeq _ _ _ [some (.ref b), some (.int n), some (.ref p1), some (.ref p2), some (.ref a), some (.ref L), some (.int (0 + (i : Int))), x7, x8, x9, x10, x11] Hi
      refine ⟨_, rfl, _, rfl, p1, _, _, .str y, rfl, rfl, SqT.of (Ti _ _ hn5), (by rw [Int.zero_add]; exact atI_nat (by rw [List.getElem?_map, hy]; rfl)), Nat.zero_le _, fun G nG => ⟨_, _, rfl, ?_⟩⟩
      have nGb : G ≠ b := ne_at nG Bi.hbs
      have nGc : G ≠ c := ne_at nG Bi.hcs
      have E0 : Ext b Hi (upd Hi G (.lst [])) := ext_new (Ext.refl' b Hi) nG
      have B0 : BagC c (upd Hi G (.lst [])) b := Bi.put nGb nGc
      have hG0 : upd Hi G (.lst []) G = some (.lst []) := upd_same
      generalize upd Hi G (.lst []) = H0 at E0 B0 hG0
      have dx : ∀ {H'}, Ext b Hi H' → Dct H' a ns 1 3 := fun e => di.ext nab e
      have tx : ∀ {H'}, Ext b Hi H' → Tups H5 H' := fun e => Ti.trans (Bi.tups e)
      try dsimp only
      show C8.tCut _ _ _ [some (.ref b), some (.int n), some (.ref p1), some (.ref p2), some (.ref a), some (.ref L), some (.int (0 + (i : Int))), some (.str y), some (.ref G), x9, x10, x11] H0
      refine ⟨fun σ' H' => ∃ x9 x10, σ' = [some (.ref b), some (.int n), some (.ref p1), some (.ref p2), some (.ref a), some (.ref L), some (.int (0 + (i : Int))), some (.str y), some (.ref G), x9, x10, x11] ∧ Ext b Hi H' ∧ BagC c H' b ∧
        ∃ (gvs : List V) (gs : List (List Nd)), H' G = some (.lst gvs) ∧ RpAll K H' gvs (gs.map gd) ∧ gs.length ≤ 3 ∧ ∀ g ∈ gs, GOk rs ns 2 g, ?_, ?_⟩
      · have n1b : p1 ≠ b := fun z => by
          obtain ⟨l, hl⟩ := B0.lst
          have q := tx E0 _ _ hn5
          rw [z, hl] at q
          cases q
        refine ⟨_, rfl, _, rfl, b, c, p1, ns.map V.str, rfl, n1b, .inr (tx E0 _ _ hn5), by rw [List.length_map]; omega, B0, fun m H9 ys e9 B9 nm' hm pm => ?_⟩
        obtain ⟨zs, pz, rfl⟩ := Ns.perm_back V.str pm rfl
        have nmb : m ≠ b := ne_at nm' B0.hbs
        refine some_const (G := IntIn 1 3) (i := 0) (vs := ([1, 1, 2, 2, 3] : List Int).map V.int) rfl B9 (fun Q' q => q) (by simp) (by simp) (ints_in (by decide)) fun v HA hv eA BA => ?_
        obtain ⟨j, rfl, j1, j3⟩ := hv
        refine ⟨j, rfl, m, zs.map V.str, rfl, SqL.of (eA m _ nmb hm), fun s nS => ⟨s, rfl, ⟨_, SqL.of upd_same⟩, ?_⟩⟩
        have sB : Same HA (upd HA s (.lst (cutV (zs.map V.str) none (some j)))) := same_new (Same.refl HA) nS
        have hB : upd HA s (.lst (cutV (zs.map V.str) none (some j))) s = some (.lst ((zs.take j.toNat).map V.str)) := by
          rw [upd_same, List.map_take, ← cut_take, Int.toNat_of_nonneg (by omega)]
        generalize upd HA s (.lst (cutV (zs.map V.str) none (some j))) = HB at sB hB
        have eB : Ext b Hi HB := ((E0.trans' e9).trans' eA).trans' (ext_same sB)
        have nSb : s ≠ b := ne_at nS BA.hbs
        have e0B : Ext b H0 HB := (e9.trans' eA).trans' (ext_same sB)
        have nSG : s ≠ G := ne_at nS ⟨_, (e9.trans' eA) G _ nGb hG0⟩
        refine for_list (xs := (zs.take j.toNat).map V.str) (fun i' σ' H' => (∃ x9 x10, σ' = [some (.ref b), some (.int n), some (.ref p1), some (.ref p2), some (.ref a), some (.ref L), some (.int (0 + (i : Int))), some (.str y), some (.ref G), x9, x10, x11]) ∧ H' s = some (.lst ((zs.take j.toNat).map V.str)) ∧ Ext b Hi H' ∧ BagC c H' b ∧
          ∃ (gvs : List V) (gs : List (List Nd)), H' G = some (.lst gvs) ∧ RpAll K H' gvs (gs.map gd) ∧ gs.length = i' ∧ ∀ g ∈ gs, GOk rs ns 2 g)
          ⟨⟨_, _, rfl⟩, hB, eB, BA.same sB, [], [], e0B G _ nGb hG0, .nil, rfl, fun x m => absurd m List.not_mem_nil⟩ (fun i' σ' H' _ z => SqL.of z.2.1) ?_ ?_
        · rintro i' x σ' HC hi ⟨⟨x9, x10, rfl⟩, hs', eC, BC, gvs, gs, hG, rg, lg, okg⟩
          obtain ⟨g, hg, rfl⟩ : ∃ g, g ∈ ns ∧ x = .str g := by
            obtain ⟨z, hz, e⟩ := List.mem_map.mp (List.mem_of_getElem? hi)
            exact ⟨z, pz.mem_iff.mp (List.mem_of_mem_take hz), e.symm⟩
          have il' : i' < 3 := by
            have q := (List.getElem?_eq_some_iff.mp hi).1
            rw [List.length_map, List.length_take] at q
            omega
          obtain ⟨z1, g1, z1a, z1b⟩ := (dx eC).get yin
          try dsimp only
          show tSeq _ _ _ [some (.ref b), some (.int n), some (.ref p1), some (.ref p2), some (.ref a), some (.ref L), some (.int (0 + (i : Int))), some (.str y), some (.ref G), some (.str g), x10, x11] HC
          refine ⟨_, rfl, _, rfl, a, _, rfl, g1, ?_⟩
          refine some_const (G := IntIn 0 1) (i := 0) (vs := ([0, 0, 1] : List Int).map V.int) rfl BC (fun Q' q => q) (by simp) (by simp) (ints_in (by decide)) fun v HD hv eD BD => ?_
          obtain ⟨u, rfl, u0, u1⟩ := hv
          have eCD := eC.trans' eD
          obtain ⟨z2, g2, z2a, z2b⟩ := (dx eCD).get yin
          obtain ⟨z3, g3, z3a, z3b⟩ := (dx eCD).get hg
          refine ⟨_, rfl, _, rfl, a, _, rfl, g2, z2, 4, rfl, rfl, .inr ⟨_, rfl, u, _, rfl, rfl, .inl ⟨by omega, by omega⟩, z1, _, rfl, rfl, ?_⟩⟩
          obtain ⟨t, ht⟩ : ∃ t : Int, z1 + u * (if decide (z2 < 4) then 1 else 0) = t := ⟨_, rfl⟩
          dsimp only
          rw [ht]
          have tb : 0 ≤ t ∧ t ≤ 4 := by
            rw [← ht]
            rcases (by omega : u = 0 ∨ u = 1) with rfl | rfl <;> split <;> omega
          have hGD := eD G _ nGb hG
          try dsimp only
          show tDrop _ _ [some (.ref b), some (.int n), some (.ref p1), some (.ref p2), some (.ref a), some (.ref L), some (.int (0 + (i : Int))), some (.str y), some (.ref G), some (.str g), some (.int t), x11] HD
          refine ⟨_, rfl, .inl ⟨rfl, _, SqL.of hGD⟩, _, rfl, _, rfl, _, rfl, _, rfl, a, _, rfl, g3, b, c, z3, rfl, by omega, by omega, BD, fun r HE r0 r1 eE BE => ⟨1, r, rfl, rfl, _, rfl, by show 5 ≤ sizeLine; decide, fun t1 nt1 => ?_⟩⟩
          have s1 : Same HE (upd HE t1 (.tup [.str "kind", .str g, .int (1 + r), .int t, .int 9])) := same_new (Same.refl HE) nt1
          have k1 : upd HE t1 (.tup [.str "kind", .str g, .int (1 + r), .int t, .int 9]) t1 = some (.tup [.str "kind", .str g, .int (1 + r), .int t, .int 9]) := upd_same
          generalize upd HE t1 (.tup [.str "kind", .str g, .int (1 + r), .int t, .int 9]) = HF at s1 k1
          refine ⟨by show 1 ≤ sizeLine; decide, fun t2 nt2 => ?_⟩
          have s2 : Same HF (upd HF t2 (.tup [.ref t1])) := same_new (Same.refl HF) nt2
          have k2 : upd HF t2 (.tup [.ref t1]) t2 = some (.tup [.ref t1]) := upd_same
          generalize upd HF t2 (.tup [.ref t1]) = HG at s2 k2
          have eCG : Ext b HC HG := (eD.trans' eE).trans' (ext_same (s1.trans s2))
          have hGG := eCG G _ nGb hG
          have TP : Tups HG (upd HG G (.lst (gvs ++ [.ref t2]))) := Tups.put hGG
          have lv : gvs.length = i' := by rw [rg.len, List.length_map, lg]
          refine ⟨G, gvs, .ref t2, rfl, rfl, hGG, by rw [lv, sizeLine_eq]; omega, ⟨_, _, rfl⟩, ?_, ext_put (eC.trans' eCG) nG, (BE.same (s1.trans s2)).put nGb nGc, gvs ++ [.ref t2], gs ++ [[.knd g (1 + r) t 9]], upd_same, ?_, by rw [List.length_append, lg]; rfl, fun g' hg' => ?_⟩
          · rw [upd_ne nSG]
            exact eCG s _ nSb hs'
          · rw [List.map_append]
            exact (rg.tups ((BC.tups eCG).trans TP) (gds_flat gs)).append (.cons (.tup (TP _ _ k2) (.cons (.tup (TP _ _ (s2 _ _ k1)) (.cons (.str _) (.cons (.str _) (.cons (.int _) (.cons (.int _) (.cons (.int _) .nil)))))) .nil)) .nil)
          · rcases List.mem_append.mp hg' with z | z
            · exact okg g' z
            · rw [List.mem_singleton.mp z]
              exact ⟨by simp, by show 1 ≤ 2; decide, fun w' hw => by rw [List.mem_singleton.mp hw]; exact ⟨hg, ⟨by omega, by omega⟩, tb, by decide⟩, by simp, List.pairwise_singleton _ _⟩
        · rintro σ' HC ⟨⟨x9, x10, rfl⟩, hs', eC, BC, gvs, gs, hG, rg, lg, okg⟩
          exact ⟨_, _, rfl, eC, BC, gvs, gs, hG, rg, by rw [lg, List.length_map, List.length_take]; omega, okg⟩
      · rintro σ' HC ⟨x9, x10, rfl, eC, BC, gvs, gs, hG, rg, lg, okg⟩
        have okR2 : p2 ≠ b := fun z => by
          obtain ⟨l, hl⟩ := BC.lst
          have q := tx eC _ _ hr5
          rw [z, hl] at q
          cases q
        have ixr : ∀ (j : Nat) (z : Str), rs[j]? = some z → atI (rs.map V.str) ((j : Nat) : Int) = some (.str z) := fun j z e => atI_nat (by rw [List.getElem?_map, e]; rfl)
        have rin : ra ∈ rs ∧ rb ∈ rs := by rw [ers]; simp
        try dsimp only
        show C8.tCut _ _ _ [some (.ref b), some (.int n), some (.ref p1), some (.ref p2), some (.ref a), some (.ref L), some (.int (0 + (i : Int))), some (.str y), some (.ref G), x9, x10, x11] HC
        refine ⟨fun σ' H' => σ' = [some (.ref b), some (.int n), some (.ref p1), some (.ref p2), some (.ref a), some (.ref L), some (.int (0 + (i : Int))), some (.str y), some (.ref G), x9, x10, x11] ∧ Ext b Hi H' ∧ BagC c H' b ∧
          ∃ (gvs : List V) (gs : List (List Nd)), H' G = some (.lst gvs) ∧ RpAll K H' gvs (gs.map gd) ∧ gs.length ≤ 4 ∧ ∀ g ∈ gs, GOk rs ns 2 g, ?_, ?_⟩
        · refine st_or (Pc := fun H' => Ext b HC H' ∧ BagC c H' b) (fun Q q => ⟨_, rfl, rfl, _, rfl, ite2 (fun _ => q _ _ ⟨Ext.refl' b HC, BC⟩) fun _ => ⟨_, rfl, b, c, 4, rfl, by decide, by decide, BC, fun z HD z0 z4 eD BD => ⟨rfl, _, rfl, q _ _ ⟨eD, BD⟩⟩⟩⟩) ?_ ?_
          · rintro HD ⟨eD, BD⟩
            have hGD := eD G _ nGb hG
            refine ⟨_, rfl, .inl ⟨rfl, _, SqL.of hGD⟩, _, rfl, p2, _, 0, .str ra, rfl, rfl, SqT.of (tx (eC.trans' eD) _ _ hr5), ixr 0 ra (by rw [ers]; rfl), _, rfl, b, c, 5, rfl, by decide, by decide, BD, fun t HE t0 t5 eE BE => ⟨by show 4 ≤ sizeLine; decide, fun t1 nt1 => ?_⟩⟩
            have s1 : Same HE (upd HE t1 (.tup [.str "row", .str ra, .int t, .int 9])) := same_new (Same.refl HE) nt1
            have k1 : upd HE t1 (.tup [.str "row", .str ra, .int t, .int 9]) t1 = some (.tup [.str "row", .str ra, .int t, .int 9]) := upd_same
            generalize upd HE t1 (.tup [.str "row", .str ra, .int t, .int 9]) = HF at s1 k1
            refine ⟨by show 1 ≤ sizeLine; decide, fun t2 nt2 => ?_⟩
            have s2 : Same HF (upd HF t2 (.tup [.ref t1])) := same_new (Same.refl HF) nt2
            have k2 : upd HF t2 (.tup [.ref t1]) t2 = some (.tup [.ref t1]) := upd_same
            generalize upd HF t2 (.tup [.ref t1]) = HG at s2 k2
            have eCG : Ext b HC HG := (eD.trans' eE).trans' (ext_same (s1.trans s2))
            have hGG := eCG G _ nGb hG
            have TP : Tups HG (upd HG G (.lst (gvs ++ [.ref t2]))) := Tups.put hGG
            have lv : gvs.length ≤ 3 := by rw [rg.len, List.length_map]; exact lg
            refine ⟨G, gvs, .ref t2, rfl, rfl, hGG, by rw [sizeLine_eq]; omega, rfl, ext_put (eC.trans' eCG) nG, (BE.same (s1.trans s2)).put nGb nGc, gvs ++ [.ref t2], gs ++ [[.row ra t 9]], upd_same, ?_, by rw [List.length_append]; simp only [List.length_cons, List.length_nil]; omega, fun g' hg' => ?_⟩
            · rw [List.map_append]
              exact (rg.tups ((BC.tups eCG).trans TP) (gds_flat gs)).append (.cons (.tup (TP _ _ k2) (.cons (.tup (TP _ _ (s2 _ _ k1)) (.cons (.str _) (.cons (.str _) (.cons (.int _) (.cons (.int _) .nil))))) .nil)) .nil)
            · rcases List.mem_append.mp hg' with z | z
              · exact okg g' z
              · rw [List.mem_singleton.mp z]
                exact ⟨by simp, by show 1 ≤ 2; decide, fun w' hw => by rw [List.mem_singleton.mp hw]; exact ⟨rin.1, ⟨t0, by omega⟩, by decide⟩, by simp, List.pairwise_singleton _ _⟩
          · rintro HD ⟨eD, BD⟩
            exact ⟨rfl, eC.trans' eD, BD, gvs, gs, eD G _ nGb hG, rg.tups (BC.tups eD) (gds_flat gs), by omega, okg⟩
        · rintro σ' HD ⟨rfl, eD, BD, gvs, gs, hG, rg, lg, okg⟩
          try dsimp only
          show C8.tCut _ _ _ [some (.ref b), some (.int n), some (.ref p1), some (.ref p2), some (.ref a), some (.ref L), some (.int (0 + (i : Int))), some (.str y), some (.ref G), x9, x10, x11] HD
          refine ⟨fun σ' H' => ∃ G', σ' = [some (.ref b), some (.int n), some (.ref p1), some (.ref p2), some (.ref a), some (.ref L), some (.int (0 + (i : Int))), some (.str y), some (.ref G'), x9, x10, x11] ∧ Ext b Hi H' ∧ BagC c H' b ∧ G' ≠ b ∧
            ∃ (gvs : List V) (gs : List (List Nd)), H' G' = some (.lst gvs) ∧ RpAll K H' gvs (gs.map gd) ∧ gs.length ≤ 4 ∧ ∀ g ∈ gs, GOk rs ns 3 g, ?_, ?_⟩
          · refine st_or (Pc := fun H' => Ext b HD H' ∧ BagC c H' b) (fun Q q => ⟨_, rfl, b, c, 4, rfl, by decide, by decide, BD, fun z HE z0 z4 eE BE => ⟨rfl, _, rfl, q _ _ ⟨eE, BE⟩⟩⟩) ?_ ?_
            · rintro HE ⟨eE, BE⟩
              have hGE := eE G _ nGb hG
              have rgE := rg.tups (BD.tups eE) (gds_flat gs)
              have lv : gvs.length ≤ 4 := by rw [rg.len, List.length_map]; exact lg
              refine ⟨_, rfl, G, rfl, ⟨_, SqL.of hGE⟩, fun D nD => ?_⟩
              have nDb : D ≠ b := ne_at nD BE.hbs
              have nDc : D ≠ c := ne_at nD BE.hcs
              have nGD : G ≠ D := fun z => by rw [← z, hGE] at nD; cases nD
              refine lc_list (xs := gvs) (fun i' H' => Ext b HE H' ∧ BagC c H' b ∧ ∃ (vs2 : List V) (gs2 : List (List Nd)), H' D = some (.lst vs2) ∧ RpAll K H' vs2 (gs2.map gd) ∧ gs2.length = i' ∧ ∀ g ∈ gs2, GOk rs ns 3 g)
                ⟨ext_put (Ext.refl' b HE) nD, BE.put nDb nDc, [], [], upd_same, .nil, rfl, fun x m => absurd m List.not_mem_nil⟩ (fun i' H' _ z => SqL.of (z.1 G _ nGb hGE)) ?_ ?_
              · rintro i' x HF hi ⟨eF, BF, vs2, gs2, hD, r2, l2, ok2⟩
                obtain ⟨d, hd, rd⟩ := RpAll.at (rgE.tups (BE.tups eF) (gds_flat gs)) hi
                obtain ⟨g, hg, rfl⟩ := List.mem_map.mp (List.mem_of_getElem? hd)
                have il' : i' < 4 := by
                  have q := (List.getElem?_eq_some_iff.mp hi).1
                  omega
                obtain ⟨ga, xs', rfl, hga, rx⟩ : ∃ ga xs', x = .ref ga ∧ HF ga = some (.tup xs') ∧ RpAll K HF xs' (g.map Nd.d) := by
                  have r' : Rp K HF x (.tup (g.map Nd.d)) := rd
                  cases r' with
                  | tup h r => exact ⟨_, _, rfl, h, r⟩
                have gok := okg g hg
                have lx : xs'.length ≤ 2 := by rw [rx.len, List.length_map]; exact gok.len
                have nx : xs' ≠ [] := fun z => by
                  have q := rx.len
                  rw [z, List.length_map] at q
                  exact gok.ne (List.length_eq_zero_iff.mp q.symm)
                refine ⟨rfl, tyes_go ⟨_, rfl, _, rfl, p2, _, 1, .str rb, rfl, rfl, SqT.of (tx ((eD.trans' eE).trans' eF) _ _ hr5), ixr 1 rb (by rw [ers]; rfl), by show 4 ≤ sizeLine; decide, fun t1 nt1 => ?_⟩⟩
                have s1 : Same HF (upd HF t1 (.tup [.str "row", .str rb, .int 1, .int 3])) := same_new (Same.refl HF) nt1
                have k1 : upd HF t1 (.tup [.str "row", .str rb, .int 1, .int 3]) t1 = some (.tup [.str "row", .str rb, .int 1, .int 3]) := upd_same
                generalize upd HF t1 (.tup [.str "row", .str rb, .int 1, .int 3]) = H1' at s1 k1
                refine ⟨by show 1 ≤ sizeLine; decide, fun t2 nt2 => ?_⟩
                have s2 : Same H1' (upd H1' t2 (.tup [.ref t1])) := same_new (Same.refl H1') nt2
                have k2 : upd H1' t2 (.tup [.ref t1]) t2 = some (.tup [.ref t1]) := upd_same
                generalize upd H1' t2 (.tup [.ref t1]) = H2' at s2 k2
                refine ⟨ga, t2, xs', [.ref t1], rfl, rfl, SqT.of (s2 _ _ (s1 _ _ hga)), SqT.of k2, nx, by rw [sizeLine_eq]; simp only [List.length_cons, List.length_nil]; omega, (fun z => by cases z), fun _ u nu => ?_⟩
                have s3 : Same H2' (upd H2' u (.tup (xs' ++ [.ref t1]))) := same_new (Same.refl H2') nu
                have k3 : upd H2' u (.tup (xs' ++ [.ref t1])) u = some (.tup (xs' ++ [.ref t1])) := upd_same
                generalize upd H2' u (.tup (xs' ++ [.ref t1])) = H3' at s3 k3
                have s13 := (s1.trans s2).trans s3
                have rall : RpAll K H3' (xs' ++ [.ref t1]) ((g ++ [Nd.row rb 1 3]).map Nd.d) := by
                  rw [List.map_append]
                  exact (RpAll.same s13 rx).append (.cons (.tup (s3 _ _ (s2 _ _ k1)) (.cons (.str _) (.cons (.str _) (.cons (.int _) (.cons (.int _) .nil))))) .nil)
                have lg3 : (g ++ [Nd.row rb 1 3]).length ≤ 3 := by
                  rw [List.length_append]
                  have := gok.len
                  simp only [List.length_cons, List.length_nil]
                  omega
                refine once_go (.inr k3) rall (fit_nds (by omega)) fun p H4' vs' es s4 np hp rp' on => ?_
                obtain ⟨g3, rfl, gok3⟩ := once_gok (rows := rs) (names := ns) (n := 3) lg3 (by simp) (fun w' hw => by
                  rcases List.mem_append.mp hw with z | z
                  · exact gok.ok w' z
                  · rw [List.mem_singleton.mp z]
                    exact ⟨rin.2, by decide, by decide⟩) on
                have s14 := s13.trans s4
                have hD4 := s14 _ _ hD
                have TP : Tups H4' (upd H4' D (.lst (vs2 ++ [.ref p]))) := Tups.put hD4
                have lv2 : vs2.length = i' := by rw [r2.len, List.length_map, l2]
                refine ⟨vs2, hD4, by rw [lv2, sizeLine_eq]; omega, ext_put (eF.trans' (ext_same s14)) nD, (BF.same s14).put nDb nDc, vs2 ++ [.ref p], gs2 ++ [g3], upd_same, ?_, by rw [List.length_append, l2]; rfl, fun g' hg' => ?_⟩
                · rw [List.map_append]
                  exact (r2.tups ((Tups.same s14).trans TP) (gds_flat gs2)).append (.cons (.tup (TP _ _ hp) (RpAll.tups TP rp' (nds_flat g3))) .nil)
                · rcases List.mem_append.mp hg' with z | z
                  · exact ok2 g' z
                  · rw [List.mem_singleton.mp z]
                    exact gok3
              · rintro HF ⟨eF, BF, vs2, gs2, hD, r2, l2, ok2⟩
                exact ⟨D, rfl, (eD.trans' eE).trans' eF, BF, nDb, vs2, gs2, hD, r2, by omega, ok2⟩
            · rintro HE ⟨eE, BE⟩
              exact ⟨G, rfl, eD.trans' eE, BE, nGb, gvs, gs, eE G _ nGb hG, rg.tups (BD.tups eE) (gds_flat gs), lg, fun g hg => ⟨(okg g hg).ne, Nat.le_succ_of_le (okg g hg).len, (okg g hg).ok, (okg g hg).nd, (okg g hg).asc⟩⟩
          · rintro σ' HE ⟨G', rfl, eE, BE, nGb', gvs, gs, hG, rg, lg, okg⟩
            have hLE := eE L _ nLb hL
            have lk : ks.length ≤ 15 := by
              have e := congrArg List.length nm
              rw [List.length_map, List.length_take] at e
              omega
            have lv : vs.length ≤ 15 := by rw [rp.len, List.length_map]; exact lk
            refine ⟨_, rfl, .inl ⟨rfl, _, SqL.of hLE⟩, _, rfl, _, rfl, b, c, 3, rfl, by decide, by decide, BE, fun r HA r0 r3 eA BA => ⟨6, r, rfl, rfl, ?_⟩⟩
            refine some_const (G := IntIn 0 12) (i := 0) (vs := ([0, 0, 1, 2, 3, 8] : List Int).map V.int) rfl BA (fun Q' q => q) (by simp) (by simp) (ints_in (by decide)) fun v HB hv eB BB => ?_
            obtain ⟨w', rfl, w0, w12⟩ := hv
            have eEB := eA.trans' eB
            refine ⟨_, rfl, once_go (.inl (eEB G' _ nGb' hG)) (rg.tups (BE.tups eEB) (gds_flat gs)) (fit_gds (fun g hg => (okg g hg).ne) (by omega)) fun q HC' vs' es sC nq hq rpq on => ?_⟩
            obtain ⟨gs2, rfl, ok2, len2, nd2, asc2⟩ := once_gs (n := 4) lg okg on
            refine ⟨by show 4 ≤ sizeLine; decide, fun t nt => ?_⟩
            have sD : Same HC' (upd HC' t (.tup [.str y, .int (6 + r), .int w', .ref q])) := same_new (Same.refl HC') nt
            have hD : upd HC' t (.tup [.str y, .int (6 + r), .int w', .ref q]) t = some (.tup [.str y, .int (6 + r), .int w', .ref q]) := upd_same
            generalize upd HC' t (.tup [.str y, .int (6 + r), .int w', .ref q]) = HF at sD hD
            have eEF : Ext b HE HF := eEB.trans' (ext_same (sC.trans sD))
            have eiF : Ext b Hi HF := eE.trans' eEF
            have hLF := eEF L _ nLb hLE
            have TP : Tups HF (upd HF L (.lst (vs ++ [.ref t]))) := Tups.put hLF
            refine ⟨L, vs, .ref t, rfl, rfl, hLF, by rw [sizeLine_eq]; omega, ⟨_, _, _, _, _, _, rfl⟩, ext_put (Ei.trans' eiF) nL0, (BB.same (sC.trans sD)).put nLb nLc, (tx eiF).trans TP, (dx eiF).put hLF, vs ++ [.ref t], ks ++ [⟨y, 6 + r, w', gs2⟩], upd_same, ?_, ?_, fun k' hk' => ?_⟩
            · rw [List.map_append]
              refine (rp.tups ((Bi.tups eiF).trans TP) (kds_flat ks)).append (.cons (.tup (TP _ _ hD) (.cons (.str y) (.cons (.int _) (.cons (.int _) (.cons (.tup (TP _ _ (sD _ _ hq)) (RpAll.tups ((Tups.same sD).trans TP) rpq (gds_flat gs2))) .nil))))) .nil)
            · rw [List.map_append, nm, List.take_succ, hy]
              rfl
            · rcases List.mem_append.mp hk' with z | z
              · exact oks k' z
              · rw [List.mem_singleton.mp z]
                exact ⟨⟨by show 1 ≤ 6 + r; omega, by show 6 + r ≤ 8; omega⟩, ⟨w0, w12⟩, ok2, len2, nd2, asc2⟩
    · rintro σ' Hi ⟨⟨x6, x7, x8, x9, x10, x11, rfl⟩, Ei, Bi, Ti, di, vs, ks, hL, rp, nm, oks⟩
      rw [List.take_length] at nm
      refine ⟨_, rfl, _, rfl, .inl ⟨L, vs, rfl, SqL.of hL, fun t nt => ⟨by show 2 ≤ sizeLine; decide, fun u nu => ?_⟩⟩⟩
      have s1 : Same Hi (upd Hi t (.tup vs)) := same_new (Same.refl Hi) nt
      have g1 : upd Hi t (.tup vs) t = some (.tup vs) := upd_same
      generalize upd Hi t (.tup vs) = Hj at s1 g1 nu
      have s2 : Same Hj (upd Hj u (.tup [.ref p2, .ref t])) := same_new (Same.refl Hj) nu
      have st := s1.trans s2
      refine k u _ ⟨rs, ks⟩ (Ei.trans' (ext_same st)) (Bi.same st) ((Ei.trans' (ext_same s1)).dom' (Bi.same s1) u nu) (.tup upd_same (.cons (.tup (st _ _ (Ti _ _ hr5)) (rp_of_strs rs)) (.cons (.tup (s2 _ _ g1) (RpAll.same st rp)) .nil))) ⟨okR, ?_, ?_⟩ ⟨?_, ?_⟩
      · show NamesOk (ks.map Kd.name)
        rw [nm]
        exact okN
      · show ∀ k ∈ ks, KOk rs (ks.map Kd.name) k
        rw [nm]
        exact oks
      · have e := congrArg List.length nm
        rw [List.length_map, N1.len] at e
        show ks.length ≤ n.toNat
        omega
      · show rs.length ≤ 2
        rw [N2.len]
        omega
end
end Gy

namespace Gy
open PySem L2 PySem.Spec PyProof.Rows
abbrev sPlanted : Stmt := top 41
def spPlanted (K : PySem.W.Frag) : Sp := fun vs H Q _ => ∃ (b c : Addr) (n : Int) (so : Str), vs = [.ref b, .str so, .int n] ∧ 1 ≤ n ∧ n ≤ 15 ∧ so ∈ (["ever", "longer", "gone", "none"] : List Str) ∧ BagC c H b ∧
  ∀ (p : Addr) (H' : Hp) (B : Bk), Ext b H H' → BagC c H' b → H p = none → Rp K H' (.ref p) B.d → BOk B → BSm B n.toNat 2 → Q (.ref p) H'
/-- list(x), x a list or a tuple -/
abbrev rListT (K : PySem.W.Frag) : List V → Hp → VK → Prop := fun xs H Q => ∃ p ys, xs = [.ref p] ∧ (SqL K H p ys ∨ SqT K H p ys) ∧ ∀ l, H l = none → Q (.ref l) (upd H l (.lst ys))
/-- one found kind: a list of its own -/
structure Row (N : Nat) (K : PySem.W.Frag) (H : Hp) (b L : Addr) (rows names : List Str) (q : Addr) (y : Str) : Prop where
  it : ∃ (keep bar : Int) (g : Addr) (gvs : List V) (gs : List (List Nd)), q ≠ b ∧ q ≠ L ∧ g ≠ b ∧ g ≠ L ∧ H q = some (.lst [.str y, .int keep, .int bar, .ref g]) ∧ H g = some (.lst gvs) ∧ RpAll K H gvs (gs.map gd) ∧ gs.length ≤ N ∧ (∀ x ∈ gs, GOk rows names 3 x) ∧ (1 ≤ keep ∧ keep ≤ 8) ∧ 0 ≤ bar ∧ bar ≤ 12
theorem Row.ext {N : Nat} {K : PySem.W.Frag} {H H' : Hp} {b c L q : Addr} {rows names : List Str} {y : Str} (r : Row N K H b L rows names q y) (B : BagC c H b) (e : Ext b H H') : Row N K H' b L rows names q y := by
  obtain ⟨keep, bar, g, gvs, gs, qb, qL, gb, gL, hq, hg, rp, rest⟩ := r.it
  exact ⟨keep, bar, g, gvs, gs, qb, qL, gb, gL, e q _ qb hq, e g _ gb hg, rp.tups (B.tups e) (gds_flat gs), rest⟩
theorem Row.putL {N : Nat} {K : PySem.W.Frag} {H : Hp} {b L q : Addr} {l l' : List V} {rows names : List Str} {y : Str} (r : Row N K H b L rows names q y) (hL : H L = some (.lst l)) : Row N K (upd H L (.lst l')) b L rows names q y := by
  obtain ⟨keep, bar, g, gvs, gs, qb, qL, gb, gL, hq, hg, rp, rest⟩ := r.it
  exact ⟨keep, bar, g, gvs, gs, qb, qL, gb, gL, by rw [upd_ne qL]; exact hq, by rw [upd_ne gL]; exact hg, rp.tups (Tups.put hL) (gds_flat gs), rest⟩
theorem Row.up {N M : Nat} {K : PySem.W.Frag} {H : Hp} {b L q : Addr} {rows names : List Str} {y : Str} (r : Row N K H b L rows names q y) (h : N ≤ M) : Row M K H b L rows names q y := by
  obtain ⟨keep, bar, g, gvs, gs, qb, qL, gb, gL, hq, hg, rp, len, rest⟩ := r.it
  exact ⟨keep, bar, g, gvs, gs, qb, qL, gb, gL, hq, hg, rp, Nat.le_trans len h, rest⟩
/-- a row's grounds are set anew -/
theorem Row.more {N : Nat} {K : PySem.W.Frag} {H : Hp} {b L q q' u : Addr} {rows names : List Str} {y y' : Str} {keep bar : Int} {g : Addr} {vs : List V} {us : List (List Nd)} (r : Row N K H b L rows names q' y') (hq : H q = some (.lst [.str y, .int keep, .int bar, .ref g]))
    (hu : H u = some (.lst vs)) (ub : u ≠ b) (uL : u ≠ L) (uq : u ≠ q) (ru : RpAll K H vs (us.map gd)) (lu : us.length ≤ N) (ok : ∀ x ∈ us, GOk rows names 3 x) : Row N K (upd H q (.lst [.str y, .int keep, .int bar, .ref u])) b L rows names q' y' := by
  obtain ⟨keep', bar', g', gvs, gs, qb, qL, gb, gL, hq', hg, rp, len, okg, k, w⟩ := r.it
  have T : Tups H (upd H q (.lst [.str y, .int keep, .int bar, .ref u])) := Tups.put hq
  by_cases e : q' = q
  · subst e
    rw [hq] at hq'
    cases hq'
    exact ⟨_, _, u, vs, us, qb, qL, ub, uL, upd_same, by rw [upd_ne uq]; exact hu, ru.tups T (gds_flat us), lu, ok, k, w⟩
  · have gq : g' ≠ q := fun z => by
      rw [z, hq] at hg
      cases hg
      cases gs with
      | nil => cases rp
      | cons a r =>
        cases rp with
        | cons r1 _ => cases r1
    exact ⟨keep', bar', g', gvs, gs, qb, qL, gb, gL, by rw [upd_ne e]; exact hq', by rw [upd_ne gq]; exact hg, rp.tups T (gds_flat gs), len, okg, k, w⟩
theorem paired_mem {α β : Type} {R : α → β → Prop} : ∀ {as : List α} {bs : List β}, Paired R as bs → ∀ a ∈ as, ∃ y, y ∈ bs ∧ R a y
  | _, _, .nil, a, m => absurd m List.not_mem_nil
  | _, _, .cons r p, a, m => by
    rcases List.mem_cons.mp m with rfl | m
    · exact ⟨_, List.mem_cons_self, r⟩
    · obtain ⟨y, hy, ry⟩ := paired_mem p a m
      exact ⟨y, List.mem_cons_of_mem _ hy, ry⟩
theorem paired_at {α β : Type} {R : α → β → Prop} : ∀ {as : List α} {bs : List β} {i : Nat} {a : α}, Paired R as bs → as[i]? = some a → ∃ y, bs[i]? = some y ∧ R a y
  | _, _, _, _, .nil, h => by simp at h
  | _, _, 0, _, .cons r _, h => by
    simp only [List.getElem?_cons_zero, Option.some.injEq] at h
    subst h
    exact ⟨_, rfl, r⟩
  | _, _, i + 1, _, .cons _ p, h => paired_at (i := i) p (by simpa using h)
theorem ife_any {c : TT} {ta tb : TE} {σ : L2.St} {H : Hp} {Q : VK} {R : Prop} {P : V → Prop} (hc : ∀ Q' : Bool → Hp → Prop, (∀ k, (k = true → R) → Q' k H) → c σ H Q') (ha : R → ∀ Q' : VK, (∀ v, P v → Q' v H) → ta σ H Q') (hb : ∀ Q' : VK, (∀ v, P v → Q' v H) → tb σ H Q') (k : ∀ v, P v → Q v H) : tIf c ta tb σ H Q :=
  hc _ fun d h => by
    cases d with
    | true => exact ha (h rfl) _ k
    | false => exact hb _ k
section
variable {P : Program} {w : World} {K : PySem.W.Frag} {mg : Str → Option Value} {base : Heap}
theorem scPlanted : FnScope ["_law_bag_here", "_law_sort", "_law_kinds", "_law_names", "_law_rows", "_law_found", "_law_ring", "_law_k", "_law_after", "_law_tells", "_law_tell", "_law_giver", "_law_grounds", "_law_ground_here", "_law_kind", "_law_kept", "_law_name", "_law_keep", "_law_bar"] ["_law_bag_here", "_law_sort", "_law_kinds"] (defScope sPlanted) := ⟨rfl, rfl, rfl, by decide +kernel, rfl, by decide +kernel, by decide +kernel⟩
theorem ok_planted {f fT fS fN fO fG : Addr} {fd fdT fdS fdN fdO fdG : FuncData} (F : Fun K "_law_planted" "_law_planted" sPlanted f fd) (T : TxtG K mg fT fS fdS) (O : TxtO mg) (lsb : mg "list" = none) (GS : FnOk P w K mg base CX0 2 fS fdS ["_law_bag_here", "_law_things"] (spSome K))
    (GT : FnOk P w K mg base CX0 1 fT fdT ["_law_bag_here", "_law_upto"] spTake) (bT : L2.Binds K fdT ["_law_bag_here", "_law_upto"] [])
    (gN : mg "_law_named" = some (.ref fN)) (bN : L2.Binds K fdN ["_law_bag_here", "_law_many"] []) (kN : PySem.W.keepIn K (.ref fN) = true) (GN : FnOk P w K mg base CX0 3 fN fdN ["_law_bag_here", "_law_many"] spNamed)
    (gO : mg "_law_more_needs" = some (.ref fO)) (bO : L2.Binds K fdO ["_law_bag_here", "_law_sort", "_law_rows"] []) (kO : PySem.W.keepIn K (.ref fO) = true) (GO : FnOk P w K mg base CX0 3 fO fdO ["_law_bag_here", "_law_sort", "_law_rows"] (spMore K))
    (gG : mg "_law_ground" = some (.ref fG)) (bG : L2.Binds K fdG ["_law_bag_here", "_law_rows", "_law_names"] []) (kG : PySem.W.keepIn K (.ref fG) = true) (GG : FnOk P w K mg base CX0 5 fG fdG ["_law_bag_here", "_law_rows", "_law_names"] (spGround K)) :
    FnOk P w K mg base CX0 6 f fd ["_law_bag_here", "_law_sort", "_law_kinds"] (spPlanted K) := by
  refine F.ok scPlanted (fun vs H Q E h => ?_) (fun cdv A outer s H vs Q E hr h => ?_)
  · obtain ⟨b, c, n, so, rfl, _⟩ := h
    rfl
  · obtain ⟨b, c, n, so, rfl, n1, n15, hso, B, k⟩ := h
    have nd := scPlanted.nd
    have hr1 := hr.mono (by decide : 1 ≤ 5)
    have hr2 := hr.mono (by decide : 2 ≤ 5)
    have hr3 := hr.mono (by decide : 3 ≤ 5)
    have hu := hr.units
    have hu0 := hu_of hr
    refine ⟨_, (pss_cons (ps_asg (pe_tup (pa_cons (pe_call GN hr3 rfl gN kN bN .nil pass0 (pa_cons (pv 0) (pa_cons (pe_op op_add pe_int (pe_call GT hr1 rfl T.b.gT T.b.kT bT .nil pass0 (pa_cons (pv 0) (pa_cons (pv 2) pa_nil)))) pa_nil))) (pa_cons (pe_call GN hr3 rfl gN kN bN .nil pass0 (pa_cons (pv 0) (pa_cons pe_int pa_nil))) pa_nil))) (pg_tup rfl (pgs_cons (pg_name (i := 3) nd rfl (Or.inr rfl)) (pgs_cons (pg_name (i := 4) nd rfl (Or.inr rfl)) pgs_nil)))) (pss_cons (ps_par (i := 5) (j := 6) rfl nd rfl rfl (by decide) rfl rfl (pa_cons (pe_lst pa_nil) (pa_cons (pe_op op_add pe_int (pe_call GT hr1 rfl T.b.gT T.b.kT bT .nil pass0 (pa_cons (pv 0) (pa_cons (pe_callB call_len_seq (by rfl) T.b.a.len PySem.boot_len (pa_cons (pv 3) pa_nil)) pa_nil)))) pa_nil)) (by rfl)) (pss_cons (ps_for PassesOwn.never rfl (pi_range1 (by rfl) O.rng (pa_cons (pe_callB call_len_seq (by rfl) T.b.a.len PySem.boot_len (pa_cons (pv 3) pa_nil)) pa_nil)) (pg_name (i := 7) nd rfl (Or.inl rfl)) (pss_cons (ps_set (i := 8) nd rfl (Or.inl rfl) (pe_op op_add pe_int (pe_call GT hr1 rfl T.b.gT T.b.kT bT .nil pass0 (pa_cons (pv 0) (pa_cons pe_int pa_nil))))) (pss_cons (ps_set (i := 9) nd rfl (Or.inl rfl) (pe_disp (pps_cons pe_str (pe_op op_add (pv 8) (pe_call GT hr1 rfl T.b.gT T.b.kT bT .nil pass0 (pa_cons (pv 0) (pa_cons (pe_op op_sub pe_int (pv 8)) pa_nil)))) (pps_cons pe_str (pe_call GT hr1 rfl T.b.gT T.b.kT bT .nil pass0 (pa_cons (pv 0) (pa_cons (pv 8) pa_nil))) (pps_cons pe_str pe_int (pps_cons pe_str pe_int pps_nil)))) (by rfl) (by rfl) (fun z => by cases z) (by decide))) (pss_cons (ps_set (i := 10) nd rfl (Or.inl rfl) (pe_dget hu0 (pv 9) (pv 1) (fun _ _ => rfl))) (pss_cons (ps_set (i := 11) nd rfl (Or.inl rfl) (pe_ifExp (pt_cmpR op_gt (pv 7) pe_int (nomark _)) (pe_ix ix_tup (pv 3) (pe_op op_sub (pv 7) pe_int) (fun _ _ => rfl)) (pe_ix ix_tup (pv 3) (pe_op op_sub (pv 6) pe_int) (fun _ _ => rfl)))) (C8.pss_cut (ps_if (PW.pt (pw_and (pt_cmpR op_eq (pv 1) pe_str (nomark _)) (pw_and1 (pt_cmpR op_eq (pv 7) pe_int (nomark _))))) (pss_one (ps_par (i := 8) (j := 10) rfl nd rfl rfl (by decide) rfl rfl (pa_cons (pe_op op_add pe_int (pe_call GT hr1 rfl T.b.gT T.b.kT bT .nil pass0 (pa_cons (pv 0) (pa_cons pe_int pa_nil)))) (pa_cons pe_int pa_nil)) (by rfl))) pss_nil) (pss_cons (ps_set (i := 12) nd rfl (Or.inl rfl) (pe_lst (pa_cons (pe_tup (pa_cons (pe_tup (pa_cons pe_str (pa_cons (pv 11) (pa_cons (pv 8) (pa_cons (pv 10) (pa_cons pe_int pa_nil)))))) pa_nil)) pa_nil))) (C8.pss_cut (ps_if (PW.pt (pw_or (pt_cmpR op_eq (pv 7) pe_int (nomark _)) (pw_or1 (PW.pt (pw_and (pt_cmpR op_eq (pv 1) pe_str (nomark _)) (pw_and1 (pt_cmpR op_eq (pe_call GT hr1 rfl T.b.gT T.b.kT bT .nil pass0 (pa_cons (pv 0) (pa_cons pe_int pa_nil))) pe_int (nomark _)))))))) (pss_one (ps_expr (by exact (pe_bm PySem.F.plainAttrs_list PySem.F.slot_list_append PySem.F.type_list_append mt_append (pv 12) (pa_cons (pe_tup (pa_cons (pe_tup (pa_cons pe_str (pa_cons (pe_ifExp (pt_cmpR op_ne (pv 1) pe_str (nomark _)) (pe_ix ix_tup (pv 4) pe_int (fun _ _ => rfl)) (pe_ix ix_tup (pv 4) pe_int (fun _ _ => rfl))) (pa_cons (pe_call GT hr1 rfl T.b.gT T.b.kT bT .nil pass0 (pa_cons (pv 0) (pa_cons pe_int pa_nil))) (pa_cons pe_int pa_nil))))) pa_nil)) pa_nil))))) pss_nil) (pss_cons (ps_setLc (i := 12) (own := [("_law_ground_here", 13)]) (g := gName 13) (tt := tYes) (te := tOnce K w (tOp rCat (tCB (rListT K) (tCons (tVar 13) tNil)) (tCall (spMore K) [] E0 (tCons (tVar 0) (tCons (tVar 1) (tCons (tVar 4) tNil)))))) rfl nd rfl rfl (sw_true rfl rfl rfl (by decide +kernel)) (pi_list (pv 12)) (blkOk_by (own := [("_law_ground_here", 13)]) (N := ["_law_bag_here", "_law_sort", "_law_kinds", "_law_names", "_law_rows", "_law_found", "_law_ring", "_law_k", "_law_after", "_law_tells", "_law_tell", "_law_giver", "_law_grounds", "_law_ground_here", "_law_kind", "_law_kept", "_law_name", "_law_keep", "_law_bar"]) (sc := defScope sPlanted) (by decide +kernel)) (fun _ _ _ _ _ => (pg_name (i := 13) nd rfl (Or.inl rfl))) (fun _ _ _ _ _ => pts_nil) (fun _ _ _ _ _ => (pe_tupleOf (by rfl) O.tup (pe_callB (Ns.cr_sortedN rfl hu) (by rfl) O.srt (by decide +kernel) (pa_cons (pe_callTy (Ns.cr_setN rfl hu) (by rfl) O.set (by decide +kernel) (pa_cons (pe_op op_cat (pe_callTy call_list_of (by rfl) lsb (by decide +kernel) (pa_cons (pv 13) pa_nil)) (pe_call GO hr3 rfl gO kO bO .nil pass0 (pa_cons (pv 0) (pa_cons (pv 1) (pa_cons (pv 4) pa_nil))))) pa_nil)) pa_nil))))) (pss_one (ps_expr (by exact (pe_bm PySem.F.plainAttrs_list PySem.F.slot_list_append PySem.F.type_list_append mt_append (pv 5) (pa_cons (pe_lst (pa_cons (pe_ix ix_tup (pv 3) (pv 7) (fun _ _ => rfl)) (pa_cons (pe_op op_sub pe_int (pe_call GT hr1 rfl T.b.gT T.b.kT bT .nil pass0 (pa_cons (pv 0) (pa_cons pe_int pa_nil)))) (pa_cons (pe_call GS hr2 rfl T.gS T.kS T.bS .nil pass0 (pa_cons (pv 0) (pa_cons (pe_lst (pa_cons pe_int (pa_cons pe_int (pa_cons pe_int (pa_cons pe_int pa_nil))))) pa_nil))) (pa_cons (pv 12) pa_nil))))) pa_nil)))))))))))))) (pss_cons (ps_for PassesOwn.never rfl (pi_list (pe_op op_rep (pv 5) (pe_callTy call_int1 (by rfl) T.b.a.int (by decide +kernel) (pa_cons (pe_cmpR op_eq (pv 1) pe_str (nomark _)) pa_nil)))) (pg_name (i := 14) nd rfl (Or.inl rfl)) (pss_one (ps_asg (pe_op op_cat (pe_ix ix_list (pv 14) pe_int (fun _ _ => rfl)) (pe_lc (own := [("_law_k", 7)]) (g := gName 7) (tt := tYes) (te := tCall (spGround K) [] E0 (tCons (tVar 0) (tCons (tVar 4) (tCons (tVar 3) tNil)))) rfl nd (pi_range1 (by rfl) O.rng (pa_cons (pe_call GT hr1 rfl T.b.gT T.b.kT bT .nil pass0 (pa_cons (pv 0) (pa_cons pe_int pa_nil))) pa_nil)) (blkOk_by (own := [("_law_k", 7)]) (N := ["_law_bag_here", "_law_sort", "_law_kinds", "_law_names", "_law_rows", "_law_found", "_law_ring", "_law_k", "_law_after", "_law_tells", "_law_tell", "_law_giver", "_law_grounds", "_law_ground_here", "_law_kind", "_law_kept", "_law_name", "_law_keep", "_law_bar"]) (sc := defScope sPlanted) (by decide +kernel)) (fun _ _ _ _ _ => (pg_name (i := 7) nd rfl (Or.inl rfl))) (fun _ _ _ _ _ => pts_nil) (fun _ _ _ _ _ => (pe_call GG hr rfl gG kG bG .nil pass0 (pa_cons (pv 0) (pa_cons (pv 4) (pa_cons (pv 3) pa_nil))))))) (pg_sub (pv 14) pe_int set_list)))) (pss_cons (ps_setLc (i := 15) (own := [("_law_name", 16), ("_law_keep", 17), ("_law_bar", 18), ("_law_grounds", 12)]) (g := gUnl K 4 (gCons (gName 16) (gCons (gName 17) (gCons (gName 18) (gCons (gName 12) gNil))))) (tt := tYes) (te := tTup (tCons (tVar 16) (tCons (tVar 17) (tCons (tVar 18) (tCons (tOnce K w (tSl (rSlL K) (tVar 12) tNoPart (tPart (tC (.int 4))))) tNil))))) rfl nd rfl rfl (sw_true rfl rfl rfl (by decide +kernel)) (pi_list (pv 5)) (blkOk_by (own := [("_law_name", 16), ("_law_keep", 17), ("_law_bar", 18), ("_law_grounds", 12)]) (N := ["_law_bag_here", "_law_sort", "_law_kinds", "_law_names", "_law_rows", "_law_found", "_law_ring", "_law_k", "_law_after", "_law_tells", "_law_tell", "_law_giver", "_law_grounds", "_law_ground_here", "_law_kind", "_law_kept", "_law_name", "_law_keep", "_law_bar"]) (sc := defScope sPlanted) (by decide +kernel)) (fun _ _ _ _ _ => pg_unl rfl (pgs_cons (pg_name (i := 16) nd rfl (Or.inl rfl)) (pgs_cons (pg_name (i := 17) nd rfl (Or.inl rfl)) (pgs_cons (pg_name (i := 18) nd rfl (Or.inl rfl)) (pgs_cons (pg_name (i := 12) nd rfl (Or.inl rfl)) pgs_nil))))) (fun _ _ _ _ _ => pts_nil) (fun _ _ _ _ _ => (pe_tup (pa_cons (pv 16) (pa_cons (pv 17) (pa_cons (pv 18) (pa_cons (pe_tupleOf (by rfl) O.tup (pe_callB (Ns.cr_sortedN rfl hu) (by rfl) O.srt (by decide +kernel) (pa_cons (pe_callTy (Ns.cr_setN rfl hu) (by rfl) O.set (by decide +kernel) (pa_cons (pe_slice sl_list (pv 12) po_none (po_some pe_int)) pa_nil)) pa_nil))) pa_nil))))))) (pss_one (ps_ret (pe_tup (pa_cons (pv 4) (pa_cons (pe_tupleOf (by rfl) O.tup (pv 15)) pa_nil)))))))))), ?_⟩
    refine ⟨_, rfl, _, rfl, _, rfl, b, c, n, rfl, by omega, by omega, B, fun r1 H1 r10 r11 e1 B1 => ⟨1, r1, rfl, rfl, b, c, (1 + r1).toNat, (by rw [Int.toNat_of_nonneg (by omega : 0 ≤ 1 + r1)]; rfl), B1, fun p1 H2 ns e2 B2 np1 hp1 N1 => ?_⟩⟩
    refine ⟨_, rfl, b, c, 2, rfl, B2, fun p2 H4 rs e4 B4 np2 hp2 N2 => ?_⟩
    refine ⟨by show 2 ≤ sizeLine; decide, fun q nq => ?_⟩
    have s5 : Same H4 (upd H4 q (.tup [.ref p1, .ref p2])) := same_new (Same.refl H4) nq
    have h5 : upd H4 q (.tup [.ref p1, .ref p2]) q = some (.tup [.ref p1, .ref p2]) := upd_same
    generalize upd H4 q (.tup [.ref p1, .ref p2]) = H5 at s5 h5
    refine ⟨q, _, rfl, SqT.of h5, rfl, _, _, rfl, _, _, rfl, rfl, ?_⟩
    have E5 : Ext b H H5 := ((e1.trans' e2).trans' e4).trans' (ext_same s5)
    have B5 := B4.same s5
    have hn5 : H5 p1 = some (.tup (ns.map V.str)) := ((B2.tups e4).trans (.same s5)) _ _ hp1
    have hr5 : H5 p2 = some (.tup (rs.map V.str)) := s5 _ _ hp2
    have okN := N1.ok (by omega)
    have okR := N2.ok (by decide)
    have nl := okN.len
    have np : 0 < ns.length := List.length_pos_iff.mpr okN.ne
    obtain ⟨ra, rb, ers⟩ : ∃ ra rb, rs = [ra, rb] := by
      have l2 := N2.len
      match rs, l2 with
      | [x, y], _ => exact ⟨x, y, rfl⟩
    have st5 : Stock H5 p2 p1 rs ns := ⟨hr5, hn5, okR.ne, okN.ne, by have := okR.len; omega, by have := okN.len; omega⟩
    try dsimp only
    show tSeq _ _ _ [some (.ref b), some (.str so), some (.int n), some (.ref p1), some (.ref p2), none, none, none, none, none, none, none, none, none, none, none, none, none, none] H5
    refine ⟨Nat.zero_le _, fun L nL => ?_⟩
    have nLb : L ≠ b := ne_at nL B5.hbs
    have nLc : L ≠ c := ne_at nL B5.hcs
    have nL0 : H L = none := E5.dom' B5 L nL
    have T6 : Tups H5 (upd H5 L (.lst [])) := fun a xs h => by rw [upd_ne (ne_of_none h nL)]; exact h
    have E6 : Ext b H (upd H5 L (.lst [])) := ext_put E5 nL0
    have B6 : BagC c (upd H5 L (.lst [])) b := B5.put nLb nLc
    have h6 : upd H5 L (.lst []) L = some (.lst []) := upd_same
    generalize upd H5 L (.lst []) = H6 at T6 E6 B6 h6
    have ez : (((ns.map V.str).length : Nat) : Int).toNat = ns.length := by rw [List.length_map]; rfl
    refine ⟨_, rfl, _, rfl, p1, ns.map V.str, rfl, .inr (SqT.of (T6 _ _ hn5)), b, c, (ns.length : Int), (by rw [List.length_map]; rfl), by omega, by omega, B6, fun r2 H7 r20 r21 e7 B7 => ⟨1, r2, rfl, rfl, _, _, rfl, ?_⟩⟩
    have T7 := T6.trans (B6.tups e7)
    have E7 := E6.trans' e7
    have h7 : H7 L = some (.lst []) := e7 L _ nLb h6
    try dsimp only
    show tSeq _ _ _ [some (.ref b), some (.str so), some (.int n), some (.ref p1), some (.ref p2), some (.ref L), some (.int (1 + r2)), none, none, none, none, none, none, none, none, none, none, none, none] H7
    refine ⟨_, rfl, p1, ns.map V.str, rfl, .inr (SqT.of (T7 _ _ hn5)), _, rfl, by rw [List.length_map]; omega, by rw [List.length_map]; omega, ?_⟩
    rw [ez]
    refine for_range (n := ns.length) (fun i σ' H' => (∃ x7 x8 x9 x10 x11 x12 x13, σ' = [some (.ref b), some (.str so), some (.int n), some (.ref p1), some (.ref p2), some (.ref L), some (.int (1 + r2)), x7, x8, x9, x10, x11, x12, x13, none, none, none, none, none]) ∧ Ext b H H' ∧ BagC c H' b ∧ Tups H5 H' ∧
        ∃ qs : List Addr, H' L = some (.lst (qs.map V.ref)) ∧ qs.Nodup ∧ (∀ q ∈ qs, q ≠ L ∧ q ≠ c ∧ H q = none) ∧ Paired (Row 5 K H' b L rs ns) qs (ns.take i))
      ⟨⟨_, _, _, _, _, _, _, rfl⟩, E7, B7, T7, [], h7, List.nodup_nil, fun q m => absurd m List.not_mem_nil, .nil⟩ ?_ ?_
    · rintro i σ' Hi il ⟨⟨x7, x8, x9, x10, x11, x12, x13, rfl⟩, Ei, Bi, Ti, qs, hL, nq, nqL, prs⟩
      obtain ⟨y, hy⟩ : ∃ y, ns[i]? = some y := ⟨_, List.getElem?_eq_getElem il⟩
      have yin : y ∈ ns := List.mem_of_getElem? hy
      try dsimp only
      show tSeq _ _ _ [some (.ref b), some (.str so), some (.int n), some (.ref p1), some (.ref p2), some (.ref L), some (.int (1 + r2)), some (.int (0 + (i : Int))), x8, x9, x10, x11, x12, x13, none, none, none, none, none] Hi
      refine ⟨_, rfl, b, c, 3, rfl, by decide, by decide, Bi, fun z1 HA z10 z13 eA BA => ⟨1, z1, rfl, rfl, ?_⟩⟩
      try dsimp only
      show tSeq _ _ _ [some (.ref b), some (.str so), some (.int n), some (.ref p1), some (.ref p2), some (.ref L), some (.int (1 + r2)), some (.int (0 + (i : Int))), some (.int (1 + z1)), x9, x10, x11, x12, x13, none, none, none, none, none] HA
      refine fun pd npd => ?_
      have npb : pd ≠ b := ne_at npd BA.hbs
      have npc : pd ≠ c := ne_at npd BA.hcs
      have EA := Ei.trans' eA
      have npd0 : Hi pd = none := eA.dom' BA pd npd
      have eB : Ext b Hi (upd HA pd (.dK [])) := ext_new eA npd
      have BB : BagC c (upd HA pd (.dK [])) b := BA.put npb npc
      have hB : upd HA pd (.dK []) pd = some (.dK []) := upd_same
      generalize upd HA pd (.dK []) = HB at eB BB hB
      refine ⟨_, rfl, _, rfl, _, rfl, 5, 1 + z1, rfl, rfl, b, c, 5 - (1 + z1), rfl, by omega, by omega, BB, fun z2 HC z20 z24 eC BC => ⟨1 + z1, z2, rfl, rfl, ?_⟩⟩
      refine ⟨_, rfl, _, rfl, b, c, 1 + z1, rfl, by omega, by omega, BC, fun z3 HD z30 z34 eD BD => ?_⟩
      refine ⟨eD pd _ npb (eC pd _ npb hB), [(.inr "ever", .int (1 + z1 + z2)), (.inr "longer", .int z3), (.inr "gone", .int 0), (.inr "none", .int 2)], rfl, by show 4 ≤ 15; decide, ?_⟩
      have hkv : ∀ kv ∈ ([(.inr "ever", .int (1 + z1 + z2)), (.inr "longer", .int z3), (.inr "gone", .int 0), (.inr "none", .int 2)] : List (Key × V)), IntIn 0 4 kv.2 := fun kv m => by
        simp only [List.mem_cons, List.mem_nil_iff, or_false] at m
        rcases m with rfl | rfl | rfl | rfl
        · exact ⟨_, rfl, by omega, by omega⟩
        · exact ⟨_, rfl, by omega, by omega⟩
        · exact ⟨_, rfl, by omega, by omega⟩
        · exact ⟨_, rfl, by omega, by omega⟩
      have hks : ([(.inr "ever", .int (1 + z1 + z2)), (.inr "longer", .int z3), (.inr "gone", .int 0), (.inr "none", .int 2)] : List (Key × V)).map (·.1) = (["ever", "longer", "gone", "none"] : List Str).map Sum.inr := rfl
      generalize ([(.inr "ever", .int (1 + z1 + z2)), (.inr "longer", .int z3), (.inr "gone", .int 0), (.inr "none", .int 2)] : List (Key × V)) = kvs at hkv hks
      have hDd : HD pd = some (.dK []) := eD pd _ npb (eC pd _ npb hB)
      have eBD := (eB.trans' eC).trans' eD
      have eE : Ext b Hi (upd HD pd (.dK (mergeK [] kvs))) := ext_put eBD npd0
      have BE : BagC c (upd HD pd (.dK (mergeK [] kvs))) b := BD.put npb npc
      have hE : upd HD pd (.dK (mergeK [] kvs)) pd = some (.dK (mergeK [] kvs)) := upd_same
      generalize upd HD pd (.dK (mergeK [] kvs)) = HE at eE BE hE
      have dct : Dct HE pd (["ever", "longer", "gone", "none"] : List Str) 0 4 := ⟨_, hE, fun x hx => by
        obtain ⟨v, e, z, rfl, q1, q3⟩ := merge_has (P := IntIn 0 4) kvs [] (fun kv m => absurd m List.not_mem_nil) hkv (Sum.inr x) (.inr (by rw [hks]; exact List.mem_map_of_mem hx))
        exact ⟨z, e, q1, q3⟩⟩
      obtain ⟨tl, gtl, tl0, tl4⟩ := dct.get hso
      have tx : ∀ {H'}, Ext b Hi H' → Tups H5 H' := fun e => Ti.trans (Bi.tups e)
      try dsimp only
      show tSeq _ _ _ [some (.ref b), some (.str so), some (.int n), some (.ref p1), some (.ref p2), some (.ref L), some (.int (1 + r2)), some (.int (0 + (i : Int))), some (.int (1 + z1)), some (.ref pd), x10, x11, x12, x13, none, none, none, none, none] HE
      refine ⟨_, rfl, _, rfl, pd, _, rfl, gtl, ?_⟩
      try dsimp only
      show tSeq _ _ _ [some (.ref b), some (.str so), some (.int n), some (.ref p1), some (.ref p2), some (.ref L), some (.int (1 + r2)), some (.int (0 + (i : Int))), some (.int (1 + z1)), some (.ref pd), some (.int tl), x11, x12, x13, none, none, none, none, none] HE
      show tIf _ _ _ _ _ _
      have atn : ∀ j : Nat, j < ns.length → ∃ gv, gv ∈ ns ∧ atI (ns.map V.str) (j : Int) = some (.str gv) := fun j hj => by
        obtain ⟨g, hg⟩ : ∃ g, ns[j]? = some g := ⟨_, List.getElem?_eq_getElem hj⟩
        exact ⟨g, List.mem_of_getElem? hg, atI_nat (by rw [List.getElem?_map, hg]; rfl)⟩
      have hn : HE p1 = some (.tup (ns.map V.str)) := tx eE _ _ hn5
      refine ife_any (R := 0 < i) (P := fun v => ∃ gv ∈ ns, v = .str gv) (fun Q' q => ⟨_, rfl, _, _, rfl, rfl, _, rfl, q _ fun z => by have := of_decide_eq_true z; omega⟩) (fun ip Q' q => ?_) (fun Q' q => ?_) ?_
      · obtain ⟨gv, gvin, at1⟩ := atn (i - 1) (by omega)
        exact ⟨_, rfl, _, rfl, _, 1, rfl, rfl, p1, _, _, .str gv, rfl, rfl, SqT.of hn, (by rw [show (0 + (i : Int)) - 1 = ((i - 1 : Nat) : Int) by omega]; exact at1), q _ ⟨gv, gvin, rfl⟩⟩
      · obtain ⟨gv, gvin, at1⟩ := atn r2.toNat (by omega)
        exact ⟨_, rfl, _, rfl, _, 1, rfl, rfl, p1, _, _, .str gv, rfl, rfl, SqT.of hn, (by rw [show 1 + r2 - 1 = ((r2.toNat : Nat) : Int) by omega]; exact at1), q _ ⟨gv, gvin, rfl⟩⟩
      rintro v ⟨gv, gvin, rfl⟩
      try dsimp only
      show C8.tCut _ _ _ [some (.ref b), some (.str so), some (.int n), some (.ref p1), some (.ref p2), some (.ref L), some (.int (1 + r2)), some (.int (0 + (i : Int))), some (.int (1 + z1)), some (.ref pd), some (.int tl), some (.str gv), x12, x13, none, none, none, none, none] HE
      refine ⟨fun σ' H' => ∃ af te : Int, σ' = [some (.ref b), some (.str so), some (.int n), some (.ref p1), some (.ref p2), some (.ref L), some (.int (1 + r2)), some (.int (0 + (i : Int))), some (.int af), some (.ref pd), some (.int te), some (.str gv), x12, x13, none, none, none, none, none] ∧ (1 ≤ af ∧ af ≤ 9) ∧ (0 ≤ te ∧ te ≤ 4) ∧ Ext b Hi H' ∧ BagC c H' b, ?_, ?_⟩
      · refine st_or (Pc := fun H' => H' = HE) (fun Q q => ⟨_, rfl, rfl, _, rfl, ite2 (fun _ => ⟨_, rfl, rfl, _, rfl, q _ _ rfl⟩) fun _ => q _ _ rfl⟩) ?_ ?_
        · rintro H' rfl
          exact ⟨_, rfl, b, c, 2, rfl, by decide, by decide, BE, fun z HF z0 z2 eF BF => ⟨2, z, rfl, rfl, _, _, rfl, _, _, rfl, ⟨by omega, by omega⟩, ⟨by omega, by omega⟩, eE.trans' eF, BF⟩⟩
        · rintro H' rfl
          exact ⟨_, _, rfl, ⟨by omega, by omega⟩, ⟨tl0, tl4⟩, eE, BE⟩
      rintro σ' HF ⟨af, te, rfl, ⟨af1, af9⟩, ⟨te0, te4⟩, eF, BF⟩
      try dsimp only
      show tSeq _ _ _ [some (.ref b), some (.str so), some (.int n), some (.ref p1), some (.ref p2), some (.ref L), some (.int (1 + r2)), some (.int (0 + (i : Int))), some (.int af), some (.ref pd), some (.int te), some (.str gv), x12, x13, none, none, none, none, none] HF
      refine ⟨_, rfl, _, rfl, _, rfl, by show 5 ≤ sizeLine; decide, fun t1 nt1 => ?_⟩
      have s1 : Same HF (upd HF t1 (.tup [.str "kind", .str gv, .int af, .int te, .int 9])) := same_new (Same.refl HF) nt1
      have k1 : upd HF t1 (.tup [.str "kind", .str gv, .int af, .int te, .int 9]) t1 = some (.tup [.str "kind", .str gv, .int af, .int te, .int 9]) := upd_same
      generalize upd HF t1 (.tup [.str "kind", .str gv, .int af, .int te, .int 9]) = HG at s1 k1
      refine ⟨by show 1 ≤ sizeLine; decide, fun t2 nt2 => ?_⟩
      have s2 : Same HG (upd HG t2 (.tup [.ref t1])) := same_new (Same.refl HG) nt2
      have k2 : upd HG t2 (.tup [.ref t1]) t2 = some (.tup [.ref t1]) := upd_same
      generalize upd HG t2 (.tup [.ref t1]) = HI at s2 k2
      have eI : Ext b Hi HI := eF.trans' (ext_same (s1.trans s2))
      have BI : BagC c HI b := BF.same (s1.trans s2)
      refine ⟨by show 1 ≤ sizeLine; decide, fun G nG => ?_⟩
      have nGb : G ≠ b := ne_at nG BI.hbs
      have nGc : G ≠ c := ne_at nG BI.hcs
      have nG0 : Hi G = none := eI.dom' BI G nG
      have sJ : Same HI (upd HI G (.lst [.ref t2])) := same_new (Same.refl HI) nG
      have hG : upd HI G (.lst [.ref t2]) G = some (.lst [.ref t2]) := upd_same
      generalize upd HI G (.lst [.ref t2]) = HJ at sJ hG
      have eJ : Ext b Hi HJ := eI.trans' (ext_same sJ)
      have BJ : BagC c HJ b := BI.same sJ
      have rJ : RpAll K HJ [.ref t2] (([[.knd gv af te 9]] : List (List Nd)).map gd) := .cons (.tup (sJ _ _ k2) (.cons (.tup (sJ _ _ (s2 _ _ k1)) (.cons (.str _) (.cons (.str _) (.cons (.int _) (.cons (.int _) (.cons (.int _) .nil)))))) .nil)) .nil
      have okJ : ∀ g ∈ ([[.knd gv af te 9]] : List (List Nd)), GOk rs ns 1 g := fun g hg => by
        rw [List.mem_singleton.mp hg]
        exact ⟨by simp, by show 1 ≤ 1; decide, fun w' hw => by rw [List.mem_singleton.mp hw]; exact ⟨gvin, ⟨by omega, by omega⟩, ⟨by omega, by omega⟩, by decide⟩, by simp, List.pairwise_singleton _ _⟩
      try dsimp only
      show C8.tCut _ _ _ [some (.ref b), some (.str so), some (.int n), some (.ref p1), some (.ref p2), some (.ref L), some (.int (1 + r2)), some (.int (0 + (i : Int))), some (.int af), some (.ref pd), some (.int te), some (.str gv), some (.ref G), x13, none, none, none, none, none] HJ
      have GL : G ≠ L := fun z => by
        have q := eI L _ nLb hL
        rw [← z, nG] at q
        cases q
      refine ⟨fun σ' H' => σ' = [some (.ref b), some (.str so), some (.int n), some (.ref p1), some (.ref p2), some (.ref L), some (.int (1 + r2)), some (.int (0 + (i : Int))), some (.int af), some (.ref pd), some (.int te), some (.str gv), some (.ref G), x13, none, none, none, none, none] ∧ Ext b Hi H' ∧ BagC c H' b ∧
          ∃ (gvs : List V) (gs : List (List Nd)), H' G = some (.lst gvs) ∧ RpAll K H' gvs (gs.map gd) ∧ gs.length ≤ 2 ∧ ∀ g ∈ gs, GOk rs ns 1 g, ?_, ?_⟩
      · refine st_or (Pc := fun H' => Ext b HJ H' ∧ BagC c H' b) (fun Q q => ⟨_, rfl, rfl, _, rfl, ite2 (fun _ => q _ _ ⟨Ext.refl' b HJ, BJ⟩) fun _ => ⟨_, rfl, rfl, _, rfl, ite2 (fun _ => ⟨_, rfl, b, c, 3, rfl, by decide, by decide, BJ, fun z HD z0 z4 eD BD => ⟨rfl, _, rfl, q _ _ ⟨eD, BD⟩⟩⟩) fun _ => q _ _ ⟨Ext.refl' b HJ, BJ⟩⟩⟩) ?_ ?_
        · rintro HD ⟨eD, BD⟩
          have hGD := eD G _ nGb hG
          have hrD := tx (eJ.trans' eD) _ _ hr5
          have ixr : ∀ (j : Nat) (z : Str), rs[j]? = some z → atI (rs.map V.str) ((j : Nat) : Int) = some (.str z) := fun j z e => atI_nat (by rw [List.getElem?_map, e]; rfl)
          have rin : ra ∈ rs ∧ rb ∈ rs := by rw [ers]; simp
          refine ⟨_, rfl, .inl ⟨rfl, _, SqL.of hGD⟩, ?_⟩
          show tIf _ _ _ _ _ _
          refine ife_any (R := True) (P := fun v => ∃ rr ∈ rs, v = .str rr) (fun Q' q => ⟨_, rfl, rfl, _, rfl, q _ fun _ => trivial⟩) (fun _ Q' q => ⟨_, rfl, p2, _, 0, .str ra, rfl, rfl, SqT.of hrD, ixr 0 ra (by rw [ers]; rfl), q _ ⟨ra, rin.1, rfl⟩⟩) (fun Q' q => ⟨_, rfl, p2, _, 1, .str rb, rfl, rfl, SqT.of hrD, ixr 1 rb (by rw [ers]; rfl), q _ ⟨rb, rin.2, rfl⟩⟩) ?_
          rintro v ⟨rr, rrin, rfl⟩
          refine ⟨_, rfl, b, c, 5, rfl, by decide, by decide, BD, fun t HE' t0 t5 eE' BE' => ⟨by show 4 ≤ sizeLine; decide, fun t1' nt1' => ?_⟩⟩
          have s1 : Same HE' (upd HE' t1' (.tup [.str "row", .str rr, .int t, .int 9])) := same_new (Same.refl HE') nt1'
          have k1 : upd HE' t1' (.tup [.str "row", .str rr, .int t, .int 9]) t1' = some (.tup [.str "row", .str rr, .int t, .int 9]) := upd_same
          generalize upd HE' t1' (.tup [.str "row", .str rr, .int t, .int 9]) = HF' at s1 k1
          refine ⟨by show 1 ≤ sizeLine; decide, fun t2' nt2' => ?_⟩
          have s2 : Same HF' (upd HF' t2' (.tup [.ref t1'])) := same_new (Same.refl HF') nt2'
          have k2 : upd HF' t2' (.tup [.ref t1']) t2' = some (.tup [.ref t1']) := upd_same
          generalize upd HF' t2' (.tup [.ref t1']) = HG' at s2 k2
          have eJG : Ext b HJ HG' := (eD.trans' eE').trans' (ext_same (s1.trans s2))
          have hGG := eJG G _ nGb hG
          have TP : Tups HG' (upd HG' G (.lst ([.ref t2] ++ [.ref t2']))) := Tups.put hGG
          refine ⟨G, [.ref t2], .ref t2', rfl, rfl, hGG, by show 1 < sizeLine; decide, rfl, ext_put (eJ.trans' eJG) nG0, (BE'.same (s1.trans s2)).put nGb nGc, [.ref t2] ++ [.ref t2'], [[.knd gv af te 9]] ++ [[.row rr t 9]], upd_same, ?_, by show 2 ≤ 2; decide, fun g' hg' => ?_⟩
          · rw [List.map_append]
            exact (rJ.tups ((BJ.tups eJG).trans TP) (gds_flat _)).append (.cons (.tup (TP _ _ k2) (.cons (.tup (TP _ _ (s2 _ _ k1)) (.cons (.str _) (.cons (.str _) (.cons (.int _) (.cons (.int _) .nil))))) .nil)) .nil)
          · rcases List.mem_append.mp hg' with z | z
            · exact okJ g' z
            · rw [List.mem_singleton.mp z]
              exact ⟨by simp, by show 1 ≤ 1; decide, fun w' hw => by rw [List.mem_singleton.mp hw]; exact ⟨rrin, ⟨t0, by omega⟩, by decide⟩, by simp, List.pairwise_singleton _ _⟩
        · rintro HD ⟨eD, BD⟩
          exact ⟨rfl, eJ.trans' eD, BD, _, _, eD G _ nGb hG, rJ.tups (BJ.tups eD) (gds_flat _), by show 1 ≤ 2; decide, okJ⟩
      rintro σ' HK ⟨rfl, eK, BK, gvs, gs, hGK, rg, lg, okg⟩
      try dsimp only
      show tSeq _ _ _ [some (.ref b), some (.str so), some (.int n), some (.ref p1), some (.ref p2), some (.ref L), some (.int (1 + r2)), some (.int (0 + (i : Int))), some (.int af), some (.ref pd), some (.int te), some (.str gv), some (.ref G), x13, none, none, none, none, none] HK
      refine ⟨_, rfl, G, rfl, ⟨_, SqL.of hGK⟩, fun D nD => ?_⟩
      have nDb : D ≠ b := ne_at nD BK.hbs
      have nDc : D ≠ c := ne_at nD BK.hcs
      have nD0 : Hi D = none := eK.dom' BK D nD
      have okR2 := N2.len
      refine lc_list (xs := gvs) (fun i' H' => Ext b HK H' ∧ BagC c H' b ∧ ∃ (vs2 : List V) (gs2 : List (List Nd)), H' D = some (.lst vs2) ∧ RpAll K H' vs2 (gs2.map gd) ∧ gs2.length = i' ∧ ∀ g ∈ gs2, GOk rs ns 3 g)
        ⟨ext_put (Ext.refl' b HK) nD, BK.put nDb nDc, [], [], upd_same, .nil, rfl, fun x m => absurd m List.not_mem_nil⟩ (fun i' H' _ z => SqL.of (z.1 G _ nGb hGK)) ?_ ?_
      · rintro i' x HF hi ⟨eF, BF, vs2, gs2, hD, r2', l2, ok2⟩
        obtain ⟨d, hd, rd⟩ := RpAll.at (rg.tups (BK.tups eF) (gds_flat gs)) hi
        obtain ⟨g, hg, rfl⟩ := List.mem_map.mp (List.mem_of_getElem? hd)
        have il' : i' < 2 := by
          have q := (List.getElem?_eq_some_iff.mp hi).1
          have q2 := rg.len
          rw [List.length_map] at q2
          omega
        obtain ⟨ga, xs', rfl, hga, rx⟩ : ∃ ga xs', x = .ref ga ∧ HF ga = some (.tup xs') ∧ RpAll K HF xs' (g.map Nd.d) := by
          have r' : Rp K HF x (.tup (g.map Nd.d)) := rd
          cases r' with
          | tup h r => exact ⟨_, _, rfl, h, r⟩
        have gok := okg g hg
        have lx : xs'.length ≤ 1 := by rw [rx.len, List.length_map]; exact gok.len
        refine ⟨rfl, tyes_go ⟨_, rfl, ga, xs', rfl, .inr (SqT.of hga), fun l nl => ?_⟩⟩
        have nlb : l ≠ b := ne_at nl BF.hbs
        have s1 : Same HF (upd HF l (.lst xs')) := same_new (Same.refl HF) nl
        have k1 : upd HF l (.lst xs') l = some (.lst xs') := upd_same
        generalize upd HF l (.lst xs') = HF1 at s1 k1
        have BF1 := BF.same s1
        refine ⟨_, rfl, _, rfl, _, rfl, b, c, p2, .str so, rs, rfl, BF1, tx (eK.trans' (eF.trans' (ext_same s1))) _ _ hr5, okR2, fun p H2' ys g2 e2 B2' np hp rp lg' okm => ?_⟩
        have ly : ys.length ≤ 1 := by rw [rp.len, List.length_map]; exact lg'
        refine ⟨l, p, xs', ys, rfl, rfl, e2 l _ nlb k1, hp, by rw [sizeLine_eq]; omega, fun u nu => ?_⟩
        have s3 : Same H2' (upd H2' u (.lst (xs' ++ ys))) := same_new (Same.refl H2') nu
        have k3 : upd H2' u (.lst (xs' ++ ys)) u = some (.lst (xs' ++ ys)) := upd_same
        generalize upd H2' u (.lst (xs' ++ ys)) = H3' at s3 k3
        have eF3 : Ext b HF H3' := ((ext_same s1).trans' e2).trans' (ext_same s3)
        have B3' := B2'.same s3
        have rall : RpAll K H3' (xs' ++ ys) ((g ++ g2).map Nd.d) := by
          rw [List.map_append]
          exact (rx.tups (BF.tups eF3) (nds_flat g)).append (RpAll.same s3 rp)
        have lg3 : (g ++ g2).length ≤ 3 := by
          rw [List.length_append]
          have := gok.len
          omega
        refine once_go (.inl k3) rall (fit_nds (by omega)) fun p' H4' vs' es s4 np' hp' rp' on => ?_
        obtain ⟨g3, rfl, gok3⟩ := once_gok (rows := rs) (names := ns) (n := 3) lg3 (by intro z; exact gok.ne (List.append_eq_nil_iff.mp z).1) (fun w' hw => by
          rcases List.mem_append.mp hw with z | z
          · exact gok.ok w' z
          · exact okm ns w' z) on
        have eF4 := eF3.trans' (ext_same s4)
        have hD4 := eF4 D _ nDb hD
        have TP : Tups H4' (upd H4' D (.lst (vs2 ++ [.ref p']))) := Tups.put hD4
        have lv2 : vs2.length = i' := by rw [r2'.len, List.length_map, l2]
        refine ⟨vs2, hD4, by rw [lv2, sizeLine_eq]; omega, ext_put (eF.trans' eF4) nD, (B3'.same s4).put nDb nDc, vs2 ++ [.ref p'], gs2 ++ [g3], upd_same, ?_, by rw [List.length_append, l2]; rfl, fun g' hg' => ?_⟩
        · rw [List.map_append]
          exact (r2'.tups ((BF.tups eF4).trans TP) (gds_flat gs2)).append (.cons (.tup (TP _ _ hp') (RpAll.tups TP rp' (nds_flat g3))) .nil)
        · rcases List.mem_append.mp hg' with z | z
          · exact ok2 g' z
          · rw [List.mem_singleton.mp z]
            exact gok3
      rintro HM ⟨eM', BM, vs2, gs2, hD, r2', l2, ok2⟩
      have eM := eK.trans' eM'
      have l22 : gs2.length ≤ 2 := by
        have q2 := rg.len
        rw [List.length_map] at q2
        omega
      have DL : D ≠ L := fun z => by
        have q := eK L _ nLb hL
        rw [← z, nD] at q
        cases q
      try dsimp only
      show tDrop _ _ [some (.ref b), some (.str so), some (.int n), some (.ref p1), some (.ref p2), some (.ref L), some (.int (1 + r2)), some (.int (0 + (i : Int))), some (.int af), some (.ref pd), some (.int te), some (.str gv), some (.ref D), x13, none, none, none, none, none] HM
      have hLM := eM L _ nLb hL
      refine ⟨_, rfl, .inl ⟨rfl, _, SqL.of hLM⟩, _, rfl, _, rfl, p1, _, _, .str y, rfl, rfl, SqT.of (tx eM _ _ hn5), (by rw [Int.zero_add]; exact atI_nat (by rw [List.getElem?_map, hy]; rfl)), _, rfl, b, c, 2, rfl, by decide, by decide, BM, fun z HN z0 z2' eN BN => ⟨8, z, rfl, rfl, ?_⟩⟩
      refine some_const (G := IntIn 0 12) (i := 0) (vs := ([0, 0, 1, 3] : List Int).map V.int) rfl BN (fun Q' q => q) (by simp) (by simp) (ints_in (by decide)) fun v HO hv eO BO => ?_
      obtain ⟨w', rfl, w0, w12⟩ := hv
      have eMO := eN.trans' eO
      refine ⟨_, rfl, by show 4 ≤ sizeLine; decide, fun t nt => ?_⟩
      have sP : Same HO (upd HO t (.lst [.str y, .int (8 - z), .int w', .ref D])) := same_new (Same.refl HO) nt
      have hP : upd HO t (.lst [.str y, .int (8 - z), .int w', .ref D]) t = some (.lst [.str y, .int (8 - z), .int w', .ref D]) := upd_same
      generalize upd HO t (.lst [.str y, .int (8 - z), .int w', .ref D]) = HP at sP hP
      have eMP : Ext b HM HP := eMO.trans' (ext_same sP)
      have eP : Ext b Hi HP := eM.trans' eMP
      have hLP := eMP L _ nLb hLM
      have tb : t ≠ b := ne_at nt BO.hbs
      have tL : t ≠ L := fun z => by
        have q := eMO L _ nLb hLM
        rw [← z, nt] at q
        cases q
      have tq : t ∉ qs := fun m => by
        obtain ⟨_, _, r⟩ := paired_mem prs t m
        obtain ⟨_, _, _, _, _, qb, _, _, _, hq, _⟩ := r.it
        have q := (eM.trans' eMO) t _ qb hq
        rw [nt] at q
        cases q
      have TP : Tups HP (upd HP L (.lst (qs.map V.ref ++ [.ref t]))) := Tups.put hLP
      have lq : (qs.map V.ref).length ≤ 15 := by
        have e : ∀ {as : List Addr} {bs : List Str}, Paired (Row 5 K Hi b L rs ns) as bs → as.length = bs.length := fun p => by
          induction p with
          | nil => rfl
          | cons _ _ ih => rw [List.length_cons, List.length_cons, ih]
        rw [List.length_map, e prs, List.length_take]
        omega
      refine ⟨L, qs.map V.ref, .ref t, rfl, rfl, hLP, by rw [sizeLine_eq]; omega, ⟨_, _, _, _, _, _, _, rfl⟩, ext_put (Ei.trans' eP) nL0, (BO.same sP).put nLb nLc, (tx eP).trans TP, qs ++ [t], by rw [upd_same, List.map_append]; rfl, ?_, fun q hq => ?_, ?_⟩
      · rw [List.nodup_append]
        exact ⟨nq, (by simp), fun x hx y hy z => by rw [List.mem_singleton.mp hy] at z; exact tq (z ▸ hx)⟩
      · rcases List.mem_append.mp hq with z | z
        · exact nqL q z
        · rw [List.mem_singleton.mp z]
          exact ⟨tL, ne_at nt BO.hcs, (Ei.trans' (eM.trans' eMO)).dom' BO t nt⟩
      · rw [List.take_succ, hy]
        exact Paired.snoc (Paired.mapP prs fun p kv h => (h.ext Bi eP).putL hLP) ⟨8 - z, w', D, vs2, gs2, tb, tL, nDb, DL, by rw [upd_ne tL]; exact hP, by rw [upd_ne DL]; exact eMP D _ nDb hD, r2'.tups ((BM.tups eMP).trans TP) (gds_flat gs2), by omega, ok2, ⟨by omega, by omega⟩, w0, w12⟩
    · rintro σ' HQ ⟨⟨x7, x8, x9, x10, x11, x12, x13, rfl⟩, EQ, BQ, TQ, qs, hL, nq, nqL, prs⟩
      rw [List.take_length] at prs
      try dsimp only
      show tSeq _ _ _ [some (.ref b), some (.str so), some (.int n), some (.ref p1), some (.ref p2), some (.ref L), some (.int (1 + r2)), x7, x8, x9, x10, x11, x12, x13, none, none, none, none, none] HQ
      obtain ⟨kk, hkk⟩ : ∃ kk : Bool, decide (so = "ever") = kk := ⟨_, rfl⟩
      have lqs : qs.length ≤ 15 := by
        have e : ∀ {as : List Addr} {bs : List Str}, Paired (Row 5 K HQ b L rs ns) as bs → as.length = bs.length := fun p => by
          induction p with
          | nil => rfl
          | cons _ _ ih => rw [List.length_cons, List.length_cons, ih]
        rw [e prs]
        exact nl
      refine ⟨_, rfl, _, rfl, rfl, .inr ⟨_, rfl, L, _, qs.map V.ref, rfl, rfl, hL, by split <;> decide, by split <;> decide, ?_, fun pl npl => ?_⟩⟩
      · rw [List.length_map, sizeLine_eq]
        split
        · show qs.length * 1 ≤ _
          omega
        · show qs.length * 0 ≤ _
          omega
      have reps : ∀ k : Bool, ∃ us : List Addr, (List.replicate ((if k = true then (1 : Int) else 0).toNat) (qs.map V.ref)).flatten = us.map V.ref ∧ us.length ≤ 15 ∧ ∀ q ∈ us, q ∈ qs := fun k => by
        cases k with
        | false => exact ⟨[], rfl, by decide, fun q m => absurd m List.not_mem_nil⟩
        | true => exact ⟨qs, by show (List.replicate 1 (qs.map V.ref)).flatten = _; simp, lqs, fun q m => m⟩
      obtain ⟨us, eus, lus, inus⟩ := reps _
      rw [eus]
      have plb : pl ≠ b := ne_at npl BQ.hbs
      have plc : pl ≠ c := ne_at npl BQ.hcs
      have npl0 : H pl = none := EQ.dom' BQ pl npl
      have sR : Same HQ (upd HQ pl (.lst (us.map V.ref))) := same_new (Same.refl HQ) npl
      have hpl : upd HQ pl (.lst (us.map V.ref)) pl = some (.lst (us.map V.ref)) := upd_same
      generalize upd HQ pl (.lst (us.map V.ref)) = HR at sR hpl
      have plq : ∀ q ∈ qs, q ≠ pl := fun q m z => by
        obtain ⟨_, _, r⟩ := paired_mem prs q m
        obtain ⟨_, _, _, _, _, qb, _, _, _, hq, _⟩ := r.it
        rw [z, npl] at hq
        cases hq
      have BR := BQ.same sR
      refine ⟨pl, rfl, ⟨_, SqL.of hpl⟩, for_list (xs := us.map V.ref) (fun i σ' H' => (∃ y7 y12 y14, σ' = [some (.ref b), some (.str so), some (.int n), some (.ref p1), some (.ref p2), some (.ref L), some (.int (1 + r2)), y7, x8, x9, x10, x11, y12, x13, y14, none, none, none, none]) ∧ Ext b H H' ∧ BagC c H' b ∧ Tups H5 H' ∧ H' pl = some (.lst (us.map V.ref)) ∧ H' L = some (.lst (qs.map V.ref)) ∧ Paired (Row (5 + 3 * i) K H' b L rs ns) qs ns)
        ⟨⟨_, _, _, rfl⟩, EQ.trans' (ext_same sR), BR, TQ.trans (.same sR), hpl, sR _ _ hL, Paired.mapP prs fun p kv h => h.ext BQ (ext_same sR)⟩ (fun i σ' H' _ z => SqL.of z.2.2.2.2.1) ?_ ?_⟩
      · rintro i x σ' Hi hi ⟨⟨y7, y12, y14, rfl⟩, Ei, Bi, Ti, hpi, hLi, pri⟩
        obtain ⟨q, hq0, rfl⟩ : ∃ q, us[i]? = some q ∧ x = .ref q := by
          rw [List.getElem?_map] at hi
          cases z : us[i]? with
          | none => rw [z] at hi; cases hi
          | some q =>
            rw [z] at hi
            exact ⟨q, rfl, (Option.some.inj hi).symm⟩
        have il : i < 15 := by
          have := (List.getElem?_eq_some_iff.mp hq0).1
          omega
        have qin : q ∈ qs := inus q (List.mem_of_getElem? hq0)
        obtain ⟨y, yin, ry⟩ := paired_mem pri q qin
        obtain ⟨keep, bar, g, gvs, gs, qb, qL, gb, gL, hq, hg, rp, len, okg, kb, wb⟩ := ry.it
        try dsimp only
        show tAsg _ _ _ [some (.ref b), some (.str so), some (.int n), some (.ref p1), some (.ref p2), some (.ref L), some (.int (1 + r2)), y7, x8, x9, x10, x11, y12, x13, some (.ref q), none, none, none, none] Hi
        refine ⟨_, rfl, q, [.str y, .int keep, .int bar, .ref g], 3, .ref g, rfl, rfl, SqL.of hq, rfl, ?_⟩
        refine ⟨_, rfl, b, c, 3, rfl, by decide, by decide, Bi, fun r HA r0 r3 eA BA => ⟨r, rfl, by omega, by omega, fun D nD => ?_⟩⟩
        have TA := Ti.trans (Bi.tups eA)
        refine lc_draw (n := r.toNat) gd (fun g => (key_kb _ (gd_key g).1).2.1) (GOk rs ns 3) nD BA (by omega) (fun i H' Q' e' B' k' => ⟨_, rfl, _, rfl, _, rfl, b, c, p2, p1, rs, ns, rfl, B', st5.tups (TA.trans (BA.tups e')), fun p H2 g e2 B2 _ rp ok => k' p H2 g e2 B2 rp ok⟩) fun H8 gvs2 gs2 e8 B8 hD rg2 lg2 okg2 => ?_
        have e18 := eA.trans' e8
        have lv1 : gvs.length ≤ 50 := by rw [rp.len, List.length_map]; omega
        have lv2 : gvs2.length ≤ 3 := by rw [rg2.len, List.length_map]; omega
        refine ⟨g, D, gvs, gvs2, rfl, rfl, e18 g _ gb hg, hD, by rw [sizeLine_eq]; omega, fun u nu => ?_⟩
        have nub : u ≠ b := ne_at nu B8.hbs
        have nuc : u ≠ c := ne_at nu B8.hcs
        have hL8 := e18 L _ nLb hLi
        have hq8 := e18 q _ qb hq
        have uL : u ≠ L := fun z => by rw [z, hL8] at nu; cases nu
        have uq : u ≠ q := fun z => by rw [z, hq8] at nu; cases nu
        have s9 : Same H8 (upd H8 u (.lst (gvs ++ gvs2))) := same_new (Same.refl H8) nu
        have h9 : upd H8 u (.lst (gvs ++ gvs2)) u = some (.lst (gvs ++ gvs2)) := upd_same
        generalize upd H8 u (.lst (gvs ++ gvs2)) = H9 at s9 h9
        have e9 := e18.trans' (ext_same s9)
        have B9 := B8.same s9
        have hq9 := s9 _ _ hq8
        have r9 : RpAll K H9 (gvs ++ gvs2) ((gs ++ gs2).map gd) := by
          rw [List.map_append]
          exact (rp.tups (Bi.tups e9) (gds_flat gs)).append (RpAll.same s9 rg2)
        have l9 : (gs ++ gs2).length ≤ 5 + 3 * (i + 1) := by
          rw [List.length_append]
          omega
        have ok9 : ∀ x ∈ gs ++ gs2, GOk rs ns 3 x := fun x hx => (List.mem_append.mp hx).elim (okg x) (okg2 x)
        have qc : q ≠ c := (nqL q qin).2.1
        have TQ' : Tups H9 (upd H9 q (.lst [.str y, .int keep, .int bar, .ref u])) := Tups.put hq9
        refine ⟨_, rfl, q, _, 3, 3, rfl, rfl, hq9, rfl, ⟨_, _, _, rfl⟩, ext_put (Ei.trans' e9) (nqL q qin).2.2, B9.put qb qc, (Ti.trans (Bi.tups e9)).trans TQ', by rw [upd_ne (plq q qin).symm]; exact e9 pl _ plb hpi, by rw [upd_ne qL.symm]; exact e9 L _ nLb hLi, Paired.mapP pri fun p kv h => ((h.ext Bi e9).up (by omega)).more hq9 h9 nub uL uq r9 l9 ok9⟩
      · rintro σ' HS ⟨⟨y7, y12, y14, rfl⟩, ES, BS, TS, _, hLS, prS⟩
        try dsimp only
        show tSeq _ _ _ [some (.ref b), some (.str so), some (.int n), some (.ref p1), some (.ref p2), some (.ref L), some (.int (1 + r2)), y7, x8, x9, x10, x11, y12, x13, y14, none, none, none, none] HS
        refine ⟨_, rfl, L, rfl, ⟨_, SqL.of hLS⟩, fun D nD => ?_⟩
        have nDb : D ≠ b := ne_at nD BS.hbs
        have nDc : D ≠ c := ne_at nD BS.hcs
        have nD0 : H D = none := ES.dom' BS D nD
        refine lc_list (xs := qs.map V.ref) (fun i' H' => Ext b HS H' ∧ BagC c H' b ∧ ∃ (vs : List V) (ks : List Kd), H' D = some (.lst vs) ∧ RpAll K H' vs (ks.map Kd.d) ∧ ks.map Kd.name = ns.take i' ∧ ∀ k ∈ ks, KOk rs ns k)
          ⟨ext_put (Ext.refl' b HS) nD, BS.put nDb nDc, [], [], upd_same, .nil, rfl, fun x m => absurd m List.not_mem_nil⟩ (fun i' H' _ z => SqL.of (z.1 L _ nLb hLS)) ?_ ?_
        · rintro i x HF hi ⟨eF, BF, vs, ks, hD, rp, nm, oks⟩
          obtain ⟨q, hq0, rfl⟩ : ∃ q, qs[i]? = some q ∧ x = .ref q := by
            rw [List.getElem?_map] at hi
            cases z : qs[i]? with
            | none => rw [z] at hi; cases hi
            | some q =>
              rw [z] at hi
              exact ⟨q, rfl, (Option.some.inj hi).symm⟩
          obtain ⟨y, hy, ry0⟩ := paired_at prS hq0
          have ry := ry0.ext BS eF
          obtain ⟨keep, bar, g, gvs, gs, qb, qL, gb, gL, hq, hg, rg, len, okg, kb, wb⟩ := ry.it
          have il : i < ns.length := (List.getElem?_eq_some_iff.mp hy).1
          refine ⟨q, _, rfl, SqL.of hq, rfl, _, _, rfl, _, _, rfl, _, _, rfl, _, _, rfl, rfl, rfl, tyes_go ?_⟩
          refine ⟨_, rfl, _, rfl, _, rfl, _, rfl, _, rfl, g, gvs, rfl, SqL.of hg, fun p np => ?_⟩
          have sA : Same HF (upd HF p (.lst (cutV gvs none (some 4)))) := same_new (Same.refl HF) np
          have hA : upd HF p (.lst (cutV gvs none (some 4))) p = some (.lst (gvs.take 4)) := by rw [upd_same]; exact congrArg (fun l => some (HO.lst l)) (cut_take gvs 4)
          generalize upd HF p (.lst (cutV gvs none (some 4))) = HA at sA hA
          have rA : RpAll K HA (gvs.take 4) ((gs.take 4).map gd) := by
            rw [List.map_take]
            exact RpAll.take 4 (RpAll.same sA rg)
          have okA : ∀ x ∈ gs.take 4, GOk rs ns 3 x := fun x hx => okg x (List.mem_of_mem_take hx)
          have lA : (gs.take 4).length ≤ 4 := by rw [List.length_take]; omega
          refine once_go (.inl hA) rA (fit_gds (fun g hg => (okA g hg).ne) (by omega)) fun q' HC' vs' es sC nq' hq' rpq on => ?_
          obtain ⟨gs2, rfl, ok2, len2, nd2, asc2⟩ := once_gs (n := 4) lA okA on
          refine ⟨by show 4 ≤ sizeLine; decide, fun t nt => ?_⟩
          have sD : Same HC' (upd HC' t (.tup [.str y, .int keep, .int bar, .ref q'])) := same_new (Same.refl HC') nt
          have hT : upd HC' t (.tup [.str y, .int keep, .int bar, .ref q']) t = some (.tup [.str y, .int keep, .int bar, .ref q']) := upd_same
          generalize upd HC' t (.tup [.str y, .int keep, .int bar, .ref q']) = HG at sD hT
          have sall := (sA.trans sC).trans sD
          have hDG := sall _ _ hD
          have TP : Tups HG (upd HG D (.lst (vs ++ [.ref t]))) := Tups.put hDG
          have lk : ks.length ≤ 15 := by
            have e := congrArg List.length nm
            rw [List.length_map, List.length_take] at e
            omega
          have lv : vs.length ≤ 15 := by rw [rp.len, List.length_map]; exact lk
          refine ⟨vs, hDG, by rw [sizeLine_eq]; omega, ext_put (eF.trans' (ext_same sall)) nD, (BF.same sall).put nDb nDc, vs ++ [.ref t], ks ++ [⟨y, keep, bar, gs2⟩], upd_same, ?_, ?_, fun k' hk' => ?_⟩
          · rw [List.map_append]
            exact (rp.tups ((Tups.same sall).trans TP) (kds_flat ks)).append (.cons (.tup (TP _ _ hT) (.cons (.str y) (.cons (.int _) (.cons (.int _) (.cons (.tup (TP _ _ (sD _ _ hq')) (RpAll.tups ((Tups.same sD).trans TP) rpq (gds_flat gs2))) .nil))))) .nil)
          · rw [List.map_append, nm, List.take_succ, hy]
            rfl
          · rcases List.mem_append.mp hk' with z | z
            · exact oks k' z
            · rw [List.mem_singleton.mp z]
              exact ⟨kb, wb, ok2, len2, nd2, asc2⟩
        rintro Hi ⟨eF, Bi, vs, ks, hD, rp, nm, oks⟩
        have nm' : ks.map Kd.name = ns := by
          have e : ∀ {as : List Addr} {bs : List Str} {R : Addr → Str → Prop}, Paired R as bs → as.length = bs.length := fun p => by
            induction p with
            | nil => rfl
            | cons _ _ ih => rw [List.length_cons, List.length_cons, ih]
          rw [nm, List.length_map, e prS, List.take_length]
        have Ei := ES.trans' eF
        have Ti := TS.trans (BS.tups eF)
        refine ⟨_, rfl, _, rfl, .inl ⟨D, vs, rfl, SqL.of hD, fun t nt => ⟨by show 2 ≤ sizeLine; decide, fun u nu => ?_⟩⟩⟩
        have s1 : Same Hi (upd Hi t (.tup vs)) := same_new (Same.refl Hi) nt
        have g1 : upd Hi t (.tup vs) t = some (.tup vs) := upd_same
        generalize upd Hi t (.tup vs) = Hj at s1 g1 nu
        have s2 : Same Hj (upd Hj u (.tup [.ref p2, .ref t])) := same_new (Same.refl Hj) nu
        have st := s1.trans s2
        refine k u _ ⟨rs, ks⟩ (Ei.trans' (ext_same st)) (Bi.same st) ((Ei.trans' (ext_same s1)).dom' (Bi.same s1) u nu) (.tup upd_same (.cons (.tup (st _ _ (Ti _ _ hr5)) (rp_of_strs rs)) (.cons (.tup (s2 _ _ g1) (RpAll.same st rp)) .nil))) ⟨okR, ?_, ?_⟩ ⟨?_, ?_⟩
        · show NamesOk (ks.map Kd.name)
          rw [nm']
          exact okN
        · show ∀ k ∈ ks, KOk rs (ks.map Kd.name) k
          rw [nm']
          exact oks
        · have e := congrArg List.length nm'
          rw [List.length_map, N1.len] at e
          show ks.length ≤ n.toNat
          omega
        · show rs.length ≤ 2
          rw [N2.len]
          omega
end
end Gy

namespace GyEn
open PySem
open Sem (wp)
set_option maxHeartbeats 1000000 in
theorem meets_new1 {v : Value} {o : Obj} {H : Heap → Prop} (B : Begins v o H) :
    Meets (Builtin.«enumerate.__new__» ⟨[.type "enumerate", v], []⟩) (fun _ R s => H s.heap ∧
      R (.ok (.ret (.ref (s.heap.push o).objs.size))) { s with heap := (s.heap.push o).push { cls := .type "enumerate", data := .fields #[.none, .bool false, .ref s.heap.objs.size, rawInt 0, .none, .none] } }) :=
  .of_wp fun prog w A R s h => by
    obtain ⟨hp, g, d, tk, os⟩ := s; obtain ⟨h1, h⟩ := h
    have hsub := sub_enumerate
    have q1 : ∀ {A' : Around} {E : Value → Shared → Prop} {Q : Value → Shared → Prop}, Q (.ref hp.objs.size) ⟨hp.push o, g, d, tk, os⟩ → wpAny (model prog w) A' (pyIter v) Q E ⟨hp, g, d, tk, os⟩ :=
      fun q => B.iter prog w _ _ ⟨hp, g, d, tk, os⟩ _ h1 q
    wp_walk using q1
    refine wpAny_stack_any fun st => wpAny_pure ?_
    split
    · rename_i c _ _ _ _ _
      cases (c == Value.type "enumerate")
      · wp_walk using q1
        exact ⟨_, rfl, h⟩
      · wp_walk using q1
        exact ⟨_, rfl, h⟩
    · wp_walk using q1
      exact ⟨_, rfl, h⟩
section
variable {prog : Program} {w : World} {A : Around} {E : Value → Shared → Prop} {s : Shared}
theorem call_enum {v : Value} {o : Obj} {H : Heap → Prop} {Q : Value → Shared → Prop} (B : Begins v o H) (h1 : H s.heap)
    (h : ∀ h', IsEnum h' (s.heap.objs.size + 1) s.heap.objs.size 0 .none → h'.get? s.heap.objs.size = some o → h'.objs.size = s.heap.objs.size + 2 →
      (∀ b o, s.heap.get? b = some o → h'.get? b = some o) → Q (.ref (s.heap.objs.size + 1)) { s with heap := h' }) :
    wpAny (model prog w) A (call (.type "enumerate") [v]) Q E s := by
  refine callType_new F.called_enumerate (by decide) (F.typeCall_enumerate_1 _) (F.newCall_enumerate_1 _) (fun obj => F.args_object_init_2 obj _) F.entry_enumerate_new
    (meets_new1 B) ⟨h1, ?_⟩
  have hz : (s.heap.push o).objs.size = s.heap.objs.size + 1 := Heap.size_push ..
  show _ ∧ _
  rw [hz]
  have he : IsEnum ((s.heap.push o).push { cls := .type "enumerate", data := .fields #[.none, .bool false, .ref s.heap.objs.size, rawInt 0, .none, .none] }) (s.heap.objs.size + 1) s.heap.objs.size 0 .none := by
    have := Heap.get?_push_size (s.heap.push o) (o := { cls := .type "enumerate", data := .fields #[.none, .bool false, .ref s.heap.objs.size, rawInt 0, .none, .none] }) rfl
    rw [hz] at this; exact this
  refine ⟨⟨_, he, rfl⟩, h _ he (Heap.get?_push_of_some _ (Heap.get?_push_size _ B.free)) (by rw [Heap.size_push, hz]) fun b o x => Heap.get?_push_of_some _ (Heap.get?_push_of_some _ x)⟩
end
theorem enum_endT {prog : Program} {w : World} {A : Around} {E : Value → Shared → Prop} {s : Shared} {e it l : Addr} {i : Nat} {items : Array Value} {old : Value} {Q : Option Value → Shared → Prop} (hh : A.handled = none)
    (he : IsEnum s.heap e it i old) (hit : s.heap.IsTupleIter it l i) (hl : s.heap.IsTuple l items) (hx : items[i]? = none)
    (hQ : ∀ h', Heap.ExtBut it s.heap h' → Q none { s with heap := h' }) : wpAny (model prog w) A (pyNext (.ref e)) Q E s := by
  have hT : s.TypeIs (.ref e) "enumerate" := ⟨_, he, rfl⟩
  unfold pyNext
  refine wpAny_bind (wpAny_attempt (wpAny_callSpecial?_slot (name := Str.ofString "__next__") hT F.slot_enumerate_next
    (wpAny_call_entry F.slot_enumerate_next hT F.entry_enumerate_next ?_ (F.args_enumerate_next_1 _))))
  show wpAny _ _ (field (.ref e) 2 >>= _) _ _ _
  refine wpAny_bind (wpAny_field he rfl (x := .ref it) rfl ?_)
  refine wpAny_bind (wpAny_nextOf_tuple_end hh hit hl hx fun h' x he' hx' => ?_)
  obtain ⟨o, ho, hc⟩ := hx'
  refine wpAny_bind (wpAny_isInstance (T := "StopIteration") (b := true) ⟨o, ho, hc⟩ isSubtype_stop ?_)
  exact wpAny_pure (hQ _ he')
end GyEn
namespace Gy
open PySem L2 PySem.Spec PyProof.Rows
/-- the tuple at a, each item in a new pair with its place -/
def Iet (K : PySem.W.Frag) (a : Addr) : It :=
  ⟨fun i H => ∃ (xs : List V) (x : V), SqT K H a xs ∧ xs[i]? = some x, fun i H v H' => ∃ T x, v = .ref T ∧ H T = none ∧ H' = upd H T (.tup [.int (i : Nat), x]) ∧ ∀ xs, SqT K H a xs → xs[i]? = some x, fun i H => ∃ xs : List V, SqT K H a xs ∧ xs.length ≤ i⟩
theorem turn_enumT {P : Program} {w : World} {K : PySem.W.Frag} {elts : List Expr} {kk : Nat} {tpos : Pos} (a e it : Addr) (nat : a ≠ it) (nae : a ≠ e) :
    Turn P w K (.Tuple elts kk tpos) (Iet K a) [e, it] e (fun i h => (∃ old, IsEnum h e it ((i : Nat) : Int) old) ∧ h.IsTupleIter it a i ∧ e ≠ it) where
  mem := by simp
  obj := fun i h st b hb => by
    obtain ⟨⟨old, he⟩, ⟨o, ho, hc, hd⟩, _⟩ := st
    have e' : b = e ∨ b = it := by simpa using hb
    rcases e' with z | z
    · rw [z]; exact ⟨_, he, fun v q => nomatch q⟩
    · rw [z]; exact ⟨o, ho, fun v q => by rw [hd] at q; cases q⟩
  keep := fun i h h' st k => let ⟨⟨old, he⟩, hi, hne⟩ := st; ⟨⟨old, k e (by simp) _ he⟩, hi.at fun o q => k it (by simp) o q, hne⟩
  item := by
    intro X hP hw hK hc i pins s σ H E I hf st hg
    subst hP hw hK
    obtain ⟨⟨old, he⟩, hit, hne⟩ := st
    obtain ⟨xs, x, hq, hx⟩ := hg
    obtain ⟨its, rv, p, hz⟩ := I.tuple hq
    obtain ⟨u, hu, ru⟩ := rv.get hx
    have hel : e < s.heap.objs.size := Heap.lt_size he
    have hil : it < s.heap.objs.size := by obtain ⟨_, q, _⟩ := hit; exact Heap.lt_size q
    have hlt : i < its.toArray.size := by
      have := (List.getElem?_eq_some_iff.mp hu).1
      simpa using this
    refine wpAny_pyNext_enum_itemC (Draws.tuple (A := X.A.in1) (prog := X.prog) (w := X.w) (I.ok.hd hc) it a nat its.toArray) he ⟨hit, show s.heap.IsTuple a its.toArray from p⟩ hlt hne (by simp [hne, Ne.symm nae]) fun u' h' tk hu' ho hst hT hsz hk => ?_
    have eu : u' = u := by
      have q : its[i]? = some u' := by simpa using hu'
      rw [hu] at q
      exact (Option.some.inj q).symm
    subst eu
    refine ⟨_, rfl, wpAny_letOwnedTupleGo_enum (s := { s with heap := h', toks := tk + 1 }) ho fun h'' he' sb => ?_⟩
    have hT2 : h''.get? s.heap.objs.size = some { cls := .type "tuple", data := .seq #[.int i tk, u'] } := (sb.2 _ (Nat.ne_of_gt hel)).trans hT
    have new : ObjOk X.prog X.w (upd H s.heap.objs.size (.tup [.int (i : Nat), x])) h'' s.heap.objs.size (.tup [.int (i : Nat), x]) :=
      ⟨by show 2 ≤ sizeLine; decide, [.int i tk, u'], .cons ⟨_, rfl⟩ (.cons ru .nil), ⟨_, hT2, rfl, _, rfl⟩⟩
    have I1 : Inv X pins σ (upd H s.heap.objs.size (.tup [.int (i : Nat), x])) { s with heap := h'', toks := tk + 1 } :=
      I.turnedNew (ch := [e, it]) (fun b ob hb q => (sb.2 b (fun z => hb (by simp [z]))).trans (hk b ob (fun z => hb (by simp [z])) (fun z => hb (by simp [z])) q)) hf (Nat.le_refl _) new
    refine ⟨.ref s.heap.objs.size, _, I1, rfl, ⟨_, x, rfl, I.hok.fresh (Nat.le_refl _), rfl, fun ys hy => by rw [I.tuple_inj hy hq]; exact hx⟩, ⟨⟨u', ?_⟩, hst.1.at fun o q => (sb.2 it (Ne.symm hne)).trans q, hne⟩, fun b hb => ?_⟩
    · have e1 : ((i + 1 : Nat) : Int) = (i : Int) + 1 := by omega
      rw [e1]; exact he'
    · have hb' : b < s.heap.objs.size := by
        have e' : b = e ∨ b = it := by simpa using hb
        rcases e' with z | z
        · rw [z]; exact hel
        · rw [z]; exact hil
      rw [upd_ne (Nat.ne_of_lt hb')]
      exact (hf b hb).1
  done := by
    intro X hP hw hK hc i pins s σ H E I hf st hg
    subst hP hw hK
    obtain ⟨⟨old, he⟩, hit, hne⟩ := st
    obtain ⟨xs, hq, hx⟩ := hg
    obtain ⟨its, rv, p, hz⟩ := I.tuple hq
    obtain ⟨f0, f1, f2, f3, f4, f5⟩ := hf it (by simp)
    have hl := rv.length
    exact GyEn.enum_endT (I.ok.hd hc) he hit (show s.heap.IsTuple a its.toArray from p) (by simp; omega) fun h' eb => ⟨rfl, I.turned (t' := s.toks) (fun b o hb q => eb b o hb q) f0 f1 f3 f4 f5⟩
  self := fun A i s Q E st h => let ⟨⟨_, he⟩, _⟩ := st; wpAny_pyIter_enum he h
def iEnumT (K : PySem.W.Frag) (ta : TA) : TI := fun σ H R => ta σ H fun vs H1 => ∃ a xs, vs = [.ref a] ∧ SqT K H1 a xs ∧ R (Iet K a) H1
theorem pi_enumT {X : Cx} {e : Expr} {ta : TA} {p pos tpos : Pos} {elts : List Expr} {kk : Nat} (hg : Gl X "enumerate") (hm : X.mg "enumerate" = none) (ha : PA X [e] ta) (hs : starEach [e] X.env = [(false, eval e X.env)] := by rfl) :
    PI X (.Tuple elts kk tpos) (.Call (.Name "enumerate" p) [e] [] pos) (iEnumT X.K ta) := by
  refine ⟨fun pins s σ H R I h => ?_⟩
  refine Call_ (ld_blt I hg hm boot_enumerate (PyProof.Rows.callWith_type1 (thn (ha.run pos pins s σ H _ I h) fun us s1 ⟨vs, H1, I1, r1, q1⟩ => ?_) hs rfl))
  obtain ⟨a, xs, ex, hq, q⟩ := q1
  subst ex
  cases r1 with
  | cons r rr =>
    cases rr
    cases r
    obtain ⟨its, rv, p', hz⟩ := I1.tuple hq
    have hat : a < s1.heap.objs.size := by
      obtain ⟨o, ho, _⟩ := (show s1.heap.IsTuple a its.toArray from p')
      exact Heap.lt_size ho
    refine GyEn.call_enum (begins_tuple a its.toArray) (show s1.heap.IsTuple a its.toArray from p') fun h' he hit hsz hk => wpAny_pyIter_enum he ?_
    have I2 : Inv X pins σ H1 { s1 with heap := h' } := I1.kept (t' := s1.toks) hk
    refine ⟨s1.heap.objs.size + 1, [s1.heap.objs.size + 1, s1.heap.objs.size], _, _, H1, rfl, I2, turn_enumT a (s1.heap.objs.size + 1) s1.heap.objs.size (Nat.ne_of_lt hat) (Nat.ne_of_lt (Nat.lt_succ_of_lt hat)), ⟨⟨.none, he⟩, ⟨_, hit, rfl, rfl⟩, Nat.succ_ne_self _⟩, fun b hb => ?_, q⟩
    have e' : b = s1.heap.objs.size + 1 ∨ b = s1.heap.objs.size := by simpa using hb
    have hle : s1.heap.objs.size ≤ b := by
      rcases e' with z | z
      · rw [z]; exact Nat.le_add_right _ _
      · rw [z]; exact Nat.le_refl _
    exact I1.fpOk hle (I1.hok.fresh hle)
theorem walk_enumT {K : PySem.W.Frag} {a : Addr} {xs : List V} : Walk (Iet K a) xs.length (fun H => SqT K H a xs) (YPair (fun i => some (.int (i : Nat))) (fun i => xs[i]?)) := by
  refine ⟨fun i _ hi q => ⟨xs, xs[i], q, by simp [hi]⟩, fun _ q => ⟨xs, q, Nat.le_refl _⟩, fun i H v H' _ q y => ?_⟩
  obtain ⟨T, x, h1, h2, h3, h4⟩ := y
  exact ⟨T, .int (i : Nat), x, h1, h2, h3, rfl, h4 xs q⟩
end Gy

namespace Gy
open PySem L2 PySem.Spec PyProof.Rows
/-- a def at hand: its name, its promise -/
structure Cal (P : Program) (w : World) (K : PySem.W.Frag) (mg : Str → Option Value) (base : Heap) (k : Nat) (x : Str) (ps : List Str) (sp : Sp) : Prop where
  ex : ∃ (f : Addr) (fd : FuncData), mg x = some (.ref f) ∧ L2.Binds K fd ps [] ∧ PySem.W.keepIn K (.ref f) = true ∧ FnOk P w K mg base CX0 k f fd ps sp
theorem pe_cal {X : Cx} {k : Nat} {x : Str} {ps : List Str} {sp : Sp} {e : Expr} {es : List Expr} {t : TA} {p pos : Pos} (C : Cal X.prog X.w X.K X.mg X.base k x ps sp) (hr : Room k X.A) (hg : Gl X x) (ha : PA X (e :: es) t)
    (hdb : (x == ("__debug__" : Str)) = false := by decide) (he : starEach (e :: es) X.env = (false, eval e X.env) :: starEach es X.env := by rfl) (hpl : (backTo pos (starEach es X.env)).any (·.1) = false := by rfl) :
    PE X (.Call (.Name x p) (e :: es) [] pos) (tCall sp [] E0 t) := by
  obtain ⟨f, fd, hm, hb, hk, F⟩ := C.ex
  exact pe_call F hr hg hm hk hb .nil pass0 ha hdb he hpl
/-- .. where the handled exception and the guards are known -/
structure CalG (P : Program) (w : World) (K : PySem.W.Frag) (mg : Str → Option Value) (base : Heap) (G : Around → Prop) (k : Nat) (x : Str) (ps : List Str) (sp : Sp) : Prop where
  ex : ∃ (f : Addr) (fd : FuncData), mg x = some (.ref f) ∧ L2.Binds K fd ps [] ∧ PySem.W.keepIn K (.ref f) = true ∧ FnG G P w K mg base k f fd ps sp
theorem pe_calG {X : Cx} {G : Around → Prop} {k : Nat} {x : Str} {ps : List Str} {sp : Sp} {e : Expr} {es : List Expr} {t : TA} {p pos : Pos} (C : CalG X.prog X.w X.K X.mg X.base G k x ps sp) (hr : RoomH k X.A) (hG : G X.A) (hg : Gl X x) (ha : PA X (e :: es) t)
    (hdb : (x == ("__debug__" : Str)) = false := by decide) (he : starEach (e :: es) X.env = (false, eval e X.env) :: starEach es X.env := by rfl) (hpl : (backTo pos (starEach es X.env)).any (·.1) = false := by rfl) :
    PE X (.Call (.Name x p) (e :: es) [] pos) (fun σ H Q => t σ H fun vs H1 => sp vs H1 Q E0) := by
  obtain ⟨f, fd, hm, hb, hk, F⟩ := C.ex
  exact pe_callG F hr hG hg hm hk hb ha hdb he hpl
theorem upd_get {H : Hp} {p : Addr} {o : HO} : upd H p o p = some o := upd_same
abbrev sRule : Stmt := top 44
/-- (rulebook, struck rows) -/
structure Struck (rows ss : List Str) : Prop where
  ne : ss ≠ []
  nd : ss.Nodup
  asc : sortedS ss = true
  sub : ∀ s ∈ ss, s ∈ rows
def spRule (K : PySem.W.Frag) : Sp := fun vs H Q _ => ∃ (b c : Addr) (n : Int), vs = [.ref b, .int n] ∧ 1 ≤ n ∧ n ≤ 15 ∧ BagC c H b ∧
  ∀ (t p q : Addr) (H' : Hp) (B : Bk) (ss : List Str), Ext b H H' → BagC c H' b → H t = none → H' t = some (.tup [.ref p, .ref q]) → Rp K H' (.ref p) B.d → BOk B → BSm B n.toNat 3 → H' q = some (.tup (ss.map V.str)) → Struck B.rows ss → Q (.ref t) H'
theorem risingS_take : ∀ {l : List Str} {x : Str} (n : Nat), risingS x l = true → risingS x (l.take n) = true
  | [], x, n, h => by rw [List.take_nil]; exact h
  | y :: l, x, 0, _ => rfl
  | y :: l, x, n + 1, h => by
    rw [List.take_succ_cons]
    simp only [risingS, Bool.and_eq_true] at h ⊢
    exact ⟨h.1, risingS_take n h.2⟩
theorem sortedS_take : ∀ {l : List Str} (n : Nat), sortedS l = true → sortedS (l.take n) = true
  | [], n, h => by rw [List.take_nil]; exact h
  | x :: l, 0, _ => rfl
  | x :: l, n + 1, h => risingS_take n h
theorem Bk.rp_rows {K : PySem.W.Frag} {H : Hp} {p : Addr} {B : Bk} (r : Rp K H (.ref p) B.d) : ∃ pr pk ks, H p = some (.tup [.ref pr, .ref pk]) ∧ H pr = some (.tup (B.rows.map V.str)) ∧ H pk = some (.tup ks) ∧ RpAll K H ks (B.kinds.map Kd.d) := by
  unfold Bk.d at r
  cases r with
  | tup e r =>
    cases r with
    | cons r1 r2 =>
      cases r2 with
      | cons r2 r3 =>
        cases r3
        cases r1 with
        | tup e1 r1 =>
          cases r2 with
          | tup e2 r2 => exact ⟨_, _, _, e, by rw [e1, rp_strs r1], e2, r2⟩
section
variable {P : Program} {w : World} {K : PySem.W.Frag} {mg : Str → Option Value} {base : Heap}
theorem scRule : FnScope ["_law_bag_here", "_law_kinds", "_law_way", "_law_found"] ["_law_bag_here", "_law_kinds"] (defScope sRule) := ⟨rfl, rfl, rfl, by decide +kernel, rfl, by decide +kernel, by decide +kernel⟩
theorem ok_rule {f : Addr} {fd : FuncData} (F : Fun K "_law_rulebook" "_law_rulebook" sRule f fd) (O : TxtO mg)
    (CT : Cal P w K mg base 1 "_law_take" ["_law_bag_here", "_law_upto"] spTake) (CS : Cal P w K mg base 2 "_law_some" ["_law_bag_here", "_law_things"] (spSome K)) (CM : Cal P w K mg base 2 "_law_mixed" ["_law_bag_here", "_law_things"] spMixed)
    (CA : Cal P w K mg base 6 "_law_any_rulebook" ["_law_bag_here", "_law_kinds", "_law_rows"] (spAny K)) (CH : Cal P w K mg base 4 "_law_threaded" ["_law_bag_here", "_law_kinds"] (spThreaded K)) (CP : Cal P w K mg base 6 "_law_planted" ["_law_bag_here", "_law_sort", "_law_kinds"] (spPlanted K)) :
    FnOk P w K mg base CX0 7 f fd ["_law_bag_here", "_law_kinds"] (spRule K) := by
  refine F.ok scRule (fun vs H Q E h => ?_) (fun cdv A outer s H vs Q E hr h => ?_)
  · obtain ⟨b, c, n, rfl, _⟩ := h
    rfl
  · obtain ⟨b, c, n, rfl, n1, n15, B, k⟩ := h
    have nd := scRule.nd
    have hr1 := hr.mono (by decide : 1 ≤ 6)
    have hr2 := hr.mono (by decide : 2 ≤ 6)
    have hr4 := hr.mono (by decide : 4 ≤ 6)
    refine ⟨_, pss_cons (ps_set (i := 2) nd rfl (Or.inl rfl) (pe_cal CT hr1 rfl (pa_cons (pv 0) (pa_cons pe_int pa_nil))))
      (pss_cons (ps_if (pt_cmpR op_lt (pv 2) pe_int (nomark _))
        (pss_cons (ps_set (i := 3) nd rfl (Or.inl rfl) (pe_cal CA hr rfl (pa_cons (pv 0) (pa_cons (pv 1) (pa_cons pe_int pa_nil)))))
        (pss_one (ps_ret (pe_tup (pa_cons (pv 3) (pa_cons (pe_tupleOf (by rfl) O.tup (pe_callB cr_sortedS (by rfl) O.srt (by decide +kernel) (pa_cons (pe_slice sl_list (pe_cal CM hr2 rfl (pa_cons (pv 0) (pa_cons (pe_ix ix_tup (pv 3) pe_int (fun _ _ => rfl)) pa_nil))) po_none
          (po_some (pe_cal CS hr2 rfl (pa_cons (pv 0) (pa_cons (pe_lst (pa_cons pe_int (pa_cons pe_int (pa_cons pe_int pa_nil)))) pa_nil))))) pa_nil))) pa_nil)))))) pss_nil)
      (C8.pss_cut (ps_if (pt_cmpR op_eq (pv 2) pe_int (nomark _))
        (pss_one (ps_set (i := 3) nd rfl (Or.inl rfl) (pe_cal CH hr4 rfl (pa_cons (pv 0) (pa_cons (pv 1) pa_nil)))))
        (pss_one (ps_set (i := 3) nd rfl (Or.inl rfl) (pe_cal CP hr rfl (pa_cons (pv 0) (pa_cons (pe_ix ix_list (pe_lst (pa_cons pe_str (pa_cons pe_str (pa_cons pe_str (pa_cons pe_str pa_nil))))) (pe_op op_sub (pv 2) pe_int) (fun _ _ => rfl)) (pa_cons (pv 1) pa_nil)))))))
      (pss_one (ps_ret (pe_tup (pa_cons (pv 3) (pa_cons (pe_slice sl_tupA (pe_ix ix_tup (pv 3) pe_int (fun _ _ => rfl)) po_none (po_some pe_int)) pa_nil))))))), ?_⟩
    refine ⟨_, rfl, b, c, 9, rfl, by decide, by decide, B, fun z H1 z0 z9 e1 B1 => ?_⟩
    try dsimp only
    show tSeq _ _ _ [some (.ref b), some (.int n), some (.int z), none] H1
    refine ⟨_, rfl, z, 4, rfl, rfl, _, rfl, ite2 (fun _ => ?_) fun h4 => ?_⟩
    · refine ⟨_, rfl, _, rfl, b, c, n, 3, rfl, n1, n15, by decide, by decide, B1, fun p H2 Bk2 e2 B2 np rp ok sm => ?_⟩
      obtain ⟨pr, pk, ks, hp, hpr, hpk, rks⟩ := Bk.rp_rows rp
      have prb : pr ≠ b := fun y => by
        obtain ⟨l, hl⟩ := B2.lst
        rw [y, hl] at hpr
        cases hpr
      refine ⟨_, rfl, _, rfl, _, rfl, p, _, 0, .ref pr, rfl, rfl, SqT.of hp, atI_nat (j := 0) rfl, b, c, pr, Bk2.rows.map V.str, rfl, prb, .inr hpr, by rw [List.length_map]; have := ok.rows.len; omega, B2, fun m H3 ys e3 B3 nm hm pm => ?_⟩
      refine some_const (G := IntIn 1 2) (i := 0) (vs := ([1, 1, 2] : List Int).map V.int) rfl B3 (fun Q' q => q) (by simp) (by simp) (ints_in (by decide)) fun v H4 hv e4 B4 => ?_
      obtain ⟨j, rfl, j1, j2⟩ := hv
      obtain ⟨zs, pz, rfl⟩ := Ns.perm_back V.str pm rfl
      have mb : m ≠ b := ne_at nm B2.hbs
      have hm4 := e4 m _ mb hm
      obtain ⟨jn, rfl⟩ : ∃ jn : Nat, j = jn := ⟨j.toNat, (Int.toNat_of_nonneg (by omega)).symm⟩
      refine ⟨_, rfl, m, zs.map V.str, rfl, SqL.of hm4, fun q nq => ?_⟩
      rw [cut_take, ← List.map_take]
      have lz : zs.length ≤ 15 := by rw [pz.length_eq]; exact ok.rows.len
      have l63 : (zs.take jn).length < 64 := by rw [List.length_take]; omega
      have s3 : Same H4 (upd H4 q (.lst ((zs.take jn).map V.str))) := same_new (Same.refl H4) nq
      have e5 : upd H4 q (.lst ((zs.take jn).map V.str)) q = some (.lst ((zs.take jn).map V.str)) := upd_same
      generalize upd H4 q (.lst ((zs.take jn).map V.str)) = H5 at s3 e5
      refine ⟨q, zs.take jn, rfl, SqL.of e5, l63, fun ws r pw sw nr => .inl ⟨r, _, rfl, SqL.of upd_same, fun t nt => ⟨by show 2 ≤ sizeLine; decide, fun u nu => ?_⟩⟩⟩
      have s4 : Same H5 (upd H5 r (.lst (ws.map V.str))) := same_new (Same.refl H5) nr
      generalize upd H5 r (.lst (ws.map V.str)) = H6 at s4 nt nu
      have s5 : Same H6 (upd H6 t (.tup (ws.map V.str))) := same_new (Same.refl H6) nt
      have g5 : upd H6 t (.tup (ws.map V.str)) t = some (.tup (ws.map V.str)) := upd_same
      generalize upd H6 t (.tup (ws.map V.str)) = H7 at s5 g5 nu
      have s6 : Same H7 (upd H7 u (.tup [.ref p, .ref t])) := same_new (Same.refl H7) nu
      have s47 := (s3.trans s4).trans s5
      have E7 : Ext b H H7 := (((e1.trans' e2).trans' e3).trans' e4).trans' (ext_same s47)
      have B7 := B4.same s47
      refine k u p t _ Bk2 ws (E7.trans' (ext_same s6)) (B7.same s6) (E7.dom' B7 u nu) upd_same (rp.tups (((B2.tups e3).trans (B3.tups e4)).trans (Tups.same (s47.trans s6))) (bk_flat Bk2)) ok sm (s6 _ _ g5) ⟨fun y => ?_, ?_, sw, fun x hx => ?_⟩
      · have := pw.length_eq
        rw [y, List.length_take, pz.length_eq] at this
        have ne := ok.rows.ne
        have : 0 < Bk2.rows.length := List.length_pos_iff.mpr ne
        simp only [List.length_nil] at *
        omega
      · exact pw.nodup_iff.mpr ((pz.nodup_iff.mpr ok.rows.nd).sublist (List.take_sublist _ _))
      · exact pz.mem_iff.mp (List.mem_of_mem_take (pw.mem_iff.mp hx))
    · try dsimp only
      show C8.tCut _ _ _ [some (.ref b), some (.int n), some (.int z), none] H1
      refine ⟨fun σ' H' => ∃ p Bk2, σ' = [some (.ref b), some (.int n), some (.int z), some (.ref p)] ∧ Ext b H H' ∧ BagC c H' b ∧ Rp K H' (.ref p) (Bk.d Bk2) ∧ BOk Bk2 ∧ BSm Bk2 n.toNat 3, ?_, ?_⟩
      · have z4 : 4 ≤ z := by simp at h4; omega
        refine ⟨_, rfl, rfl, _, rfl, ite2 (fun _ => ?_) fun h8 => ?_⟩
        · exact ⟨_, rfl, _, rfl, b, c, n, rfl, n1, n15, B1, fun p H2 Bk2 e2 B2 np rp ok sm => ⟨p, Bk2, rfl, e1.trans' e2, B2, rp, ok, sm.1, Nat.le_succ_of_le sm.2⟩⟩
        · have z8 : z ≠ 8 := by simpa using h8
          obtain ⟨j, hj, so, hso, hin⟩ : ∃ j : Nat, z - 4 = j ∧ ∃ so : Str, (([.str "ever", .str "longer", .str "gone", .str "none"] : List V))[j]? = some (.str so) ∧ so ∈ (["ever", "longer", "gone", "none"] : List Str) := by
            have : z = 4 ∨ z = 5 ∨ z = 6 ∨ z = 7 := by omega
            rcases this with rfl | rfl | rfl | rfl
            · exact ⟨0, rfl, _, rfl, by simp⟩
            · exact ⟨1, rfl, _, rfl, by simp⟩
            · exact ⟨2, rfl, _, rfl, by simp⟩
            · exact ⟨3, rfl, _, rfl, by simp⟩
          refine ⟨_, rfl, by show 4 ≤ sizeLine; decide, fun l nl => ⟨_, rfl, z, 4, rfl, rfl, l, _, z - 4, .str so, rfl, rfl, SqL.of upd_same, (by rw [hj]; exact atI_nat hso), _, rfl, ?_⟩⟩
          have s2 : Same H1 (upd H1 l (.lst [.str "ever", .str "longer", .str "gone", .str "none"])) := same_new (Same.refl H1) nl
          exact ⟨b, c, n, so, rfl, n1, n15, hin, B1.same s2, fun p H2 Bk2 e2 B2 np rp ok sm => ⟨p, Bk2, rfl, (e1.trans' (ext_same s2)).trans' e2, B2, rp, ok, sm.1, Nat.le_succ_of_le sm.2⟩⟩
      · rintro σ' H2 ⟨p, Bk2, rfl, E2, B2, rp, ok, sm⟩
        obtain ⟨pr, pk, ks, hp, hpr, hpk, rks⟩ := Bk.rp_rows rp
        have fin : ∀ (q : Addr) (H3 : Hp) (ss : List Str), Same H2 H3 → H3 q = some (.tup (ss.map V.str)) → Struck Bk2.rows ss → ∀ u, H3 u = none → Q (.ref u) (upd H3 u (.tup [.ref p, .ref q])) := fun q H3 ss s3 hq st u nu => by
          have s4 : Same H3 (upd H3 u (.tup [.ref p, .ref q])) := same_new (Same.refl H3) nu
          have E3 := E2.trans' (ext_same s3)
          exact k u p q _ Bk2 ss (E3.trans' (ext_same s4)) ((B2.same s3).same s4) (E3.dom' (B2.same s3) u nu) upd_same (rp.tups (Tups.same (s3.trans s4)) (bk_flat Bk2)) ok sm (s4 _ _ hq) st
        refine ⟨_, rfl, _, rfl, p, _, 0, .ref pr, rfl, rfl, SqT.of hp, atI_nat (j := 0) rfl, _, rfl, pr, Bk2.rows.map V.str, rfl, SqT.of hpr, fun hw => ⟨by show 2 ≤ sizeLine; decide, fun u nu => fin pr H2 Bk2.rows (Same.refl H2) hpr ⟨ok.rows.ne, ok.rows.nd, ok.rows.asc, fun x h => h⟩ u nu⟩, fun _ q nq => ⟨by show 2 ≤ sizeLine; decide, fun u nu => ?_⟩⟩
        have ec : cutV (Bk2.rows.map V.str) none (some 1) = (Bk2.rows.take 1).map V.str := by rw [List.map_take]; exact cut_take _ 1
        rw [ec] at nu ⊢
        refine fin q _ (Bk2.rows.take 1) (same_new (Same.refl H2) nq) upd_same ⟨fun y => ?_, ok.rows.nd.sublist (List.take_sublist _ _), sortedS_take 1 ok.rows.asc, fun x h => List.mem_of_mem_take h⟩ u nu
        have := congrArg List.length y
        rw [List.length_take, List.length_nil] at this
        have : 0 < Bk2.rows.length := List.length_pos_iff.mpr ok.rows.ne
        omega
end
end Gy

namespace Gy
open PySem L2 PySem.Spec PyProof.Rows
/-! ### tame data: short texts, small numbers, no dict: how long it is when shown -/
def tameS (x : Str) : Bool := decide ((reprText x).length ≤ 12) && PyData.strOk x
mutual
def D.tame : D → Bool
  | .non => true
  | .bl _ => true
  | .int i => decide (0 ≤ i) && decide (i < 1000)
  | .str x => tameS x
  | .tup ds => D.tameAll ds
  | .lst ds => D.tameAll ds
  | .dic _ _ => false
  | .exc _ _ => false
def D.tameAll : List D → Bool
  | [] => true
  | d :: ds => d.tame && D.tameAll ds
end
mutual
def D.nodes : D → Nat
  | .tup ds => 1 + D.nodesAll ds
  | .lst ds => 1 + D.nodesAll ds
  | .non => 1
  | .bl _ => 1
  | .int _ => 1
  | .str _ => 1
  | .dic _ _ => 1
  | .exc _ _ => 1
def D.nodesAll : List D → Nat
  | [] => 0
  | d :: ds => d.nodes + D.nodesAll ds
end
theorem small_shown : (List.range 1000).all (fun n => decide ((toString (n : Int) : Str).length ≤ 12)) = true := by decide +kernel
theorem int_shown {i : Int} (h0 : 0 ≤ i) (h1 : i < 1000) : (toString i : Str).length ≤ 12 := by
  obtain ⟨n, rfl⟩ : ∃ n : Nat, i = n := ⟨i.toNat, (Int.toNat_of_nonneg h0).symm⟩
  have q := List.all_eq_true.mp small_shown n (List.mem_range.mpr (by omega))
  exact of_decide_eq_true q
theorem int_ok {i : Int} (h0 : 0 ≤ i) (h1 : i < 1000) : decide (i.natAbs.log2 < 1920) = true := by
  refine decide_eq_true ?_
  have : i.natAbs < 2 ^ 10 := by omega
  rcases Nat.eq_zero_or_pos i.natAbs with z | z
  · rw [z]
    decide
  · have := (Nat.log2_lt (by omega)).mpr this
    omega
mutual
theorem tame_all : ∀ (d : D), d.tame = true → d.ok = true ∧ d.plain = true ∧ d.py.canLay0 = true ∧ d.py.depth = d.depth ∧ d.shown.length + 4 ≤ 16 * d.nodes
  | .non, _ => ⟨rfl, rfl, rfl, rfl, by simp only [D.shown, D.nodes]; decide⟩
  | .bl true, _ => ⟨rfl, rfl, rfl, rfl, by simp only [D.shown, D.nodes]; decide⟩
  | .bl false, _ => ⟨rfl, rfl, rfl, rfl, by simp only [D.shown, D.nodes]; decide⟩
  | .int i, h => by
    simp only [D.tame, Bool.and_eq_true, decide_eq_true_eq] at h
    have q := int_shown h.1 h.2
    exact ⟨by simp only [D.ok, int_ok h.1 h.2], rfl, rfl, rfl, by simp only [D.shown, D.nodes]; omega⟩
  | .str x, h => by
    simp only [D.tame, tameS, Bool.and_eq_true, decide_eq_true_eq] at h
    exact ⟨rfl, rfl, by simp only [D.py, PyData.canLay0, h.2], rfl, by simp only [D.shown, D.nodes]; omega⟩
  | .tup ds, h => by
    simp only [D.tame] at h
    obtain ⟨h1, h2, h3, h4, h5, h6⟩ := tame_alls ds h
    have q := tupleText_len_le (D.shownAll ds)
    rw [h6] at q
    exact ⟨by simp only [D.ok, h1], by simp only [D.plain, h2], by simp only [D.py, PyData.canLay0, h3], by simp only [D.py, PyData.depth, D.depth, h4], by simp only [D.shown, D.nodes]; omega⟩
  | .lst ds, h => by
    simp only [D.tame] at h
    obtain ⟨h1, h2, h3, h4, h5, h6⟩ := tame_alls ds h
    have q := listText_len_le (D.shownAll ds)
    rw [h6] at q
    exact ⟨by simp only [D.ok, h1], by simp only [D.plain, h2], by simp only [D.py, PyData.canLay0, h3], by simp only [D.py, PyData.depth, D.depth, h4], by simp only [D.shown, D.nodes]; omega⟩
  | .dic _ _, h => by cases h
  | .exc _ _, h => by cases h
theorem tame_alls : ∀ (ds : List D), D.tameAll ds = true → D.okAll ds = true ∧ D.plainAll ds = true ∧ PyData.canLayAll0 (D.pyAll ds) = true ∧ PyData.depthAll (D.pyAll ds) = D.depthAll ds ∧ ((D.shownAll ds).map (·.length)).sum + 4 * ds.length ≤ 16 * D.nodesAll ds ∧ (D.shownAll ds).length = ds.length
  | [], _ => ⟨rfl, rfl, rfl, rfl, by simp [D.shownAll, D.nodesAll], rfl⟩
  | d :: ds, h => by
    simp only [D.tameAll, Bool.and_eq_true] at h
    obtain ⟨h1, h2, h3, h4, h5⟩ := tame_all d h.1
    obtain ⟨g1, g2, g3, g4, g5, g6⟩ := tame_alls ds h.2
    refine ⟨by simp only [D.okAll, h1, g1, Bool.and_self], by simp only [D.plainAll, h2, g2, Bool.and_self], by simp only [D.pyAll, PyData.canLayAll0, h3, g3, Bool.and_self], by simp only [D.pyAll, PyData.depthAll, D.depthAll, h4, g4], ?_, by simp only [D.shownAll, List.length_cons, g6]⟩
    simp only [D.shownAll, D.nodesAll, List.map_cons, List.sum_cons, List.length_cons]
    omega
end
/-- fit to be shown and compared: tame, of at most n nodes and m levels -/
structure D.Fine (d : D) (n m : Nat) : Prop where
  tame : d.tame = true
  nodes : d.nodes ≤ n
  depth : d.depth ≤ m
structure FineL (ds : List D) (n m : Nat) : Prop where
  tame : D.tameAll ds = true
  nodes : D.nodesAll ds ≤ n
  depth : D.depthAll ds ≤ m
theorem FineL.tup {ds : List D} {n m : Nat} (h : FineL ds n m) : (D.tup ds).Fine (1 + n) (m + 1) := ⟨by simp only [D.tame, h.tame], by simp only [D.nodes]; have := h.nodes; omega, by simp only [D.depth]; have := h.depth; omega⟩
theorem FineL.lst {ds : List D} {n m : Nat} (h : FineL ds n m) : (D.lst ds).Fine (1 + n) (m + 1) := ⟨by simp only [D.tame, h.tame], by simp only [D.nodes]; have := h.nodes; omega, by simp only [D.depth]; have := h.depth; omega⟩
theorem FineL.nil : FineL [] 0 0 := ⟨rfl, Nat.le_refl _, Nat.le_refl _⟩
theorem FineL.cons {d : D} {ds : List D} {n m n' m' : Nat} (h : d.Fine n m) (h' : FineL ds n' m') : FineL (d :: ds) (n + n') (max m m') :=
  ⟨by simp only [D.tameAll, h.tame, h'.tame, Bool.and_self], by simp only [D.nodesAll]; have := h.nodes; have := h'.nodes; omega, by simp only [D.depthAll]; have := h.depth; have := h'.depth; omega⟩
theorem FineL.of {n m : Nat} : ∀ {ds : List D}, (∀ d ∈ ds, d.Fine n m) → FineL ds (n * ds.length) m
  | [], _ => ⟨rfl, Nat.zero_le _, Nat.zero_le _⟩
  | d :: ds, h => by
    have q := FineL.cons (h d List.mem_cons_self) (FineL.of fun e he => h e (List.mem_cons_of_mem _ he))
    refine ⟨q.tame, Nat.le_trans q.nodes ?_, Nat.le_trans q.depth (by simp)⟩
    rw [List.length_cons, Nat.mul_succ]
    omega
theorem D.Fine.mono {d : D} {n m n' m' : Nat} (h : d.Fine n m) (hn : n ≤ n') (hm : m ≤ m') : d.Fine n' m' := ⟨h.tame, Nat.le_trans h.nodes hn, Nat.le_trans h.depth hm⟩
theorem FineL.mono {ds : List D} {n m n' m' : Nat} (h : FineL ds n m) (hn : n ≤ n') (hm : m ≤ m') : FineL ds n' m' := ⟨h.tame, Nat.le_trans h.nodes hn, Nat.le_trans h.depth hm⟩
theorem fine_non : D.non.Fine 1 0 := ⟨rfl, Nat.le_refl _, Nat.le_refl _⟩
theorem fine_int {i : Int} (h0 : 0 ≤ i) (h1 : i < 1000) : (D.int i).Fine 1 0 := ⟨by simp only [D.tame, decide_eq_true h0, decide_eq_true h1, Bool.and_self], Nat.le_refl _, Nat.le_refl _⟩
theorem fine_str {x : Str} (h : tameS x = true) : (D.str x).Fine 1 0 := ⟨by simp only [D.tame, h], Nat.le_refl _, Nat.le_refl _⟩
theorem menu_tame : menu.all tameS = true := by decide +kernel
theorem fine_name {x : Str} (h : x ∈ menu) : (D.str x).Fine 1 0 := fine_str (List.all_eq_true.mp menu_tame x h)
/-! ### a book is fine -/
theorem Nd.fine {rows names : List Str} {x : Nd} (h : x.ok rows names) (hr : ∀ y ∈ rows, y ∈ menu) (hn : ∀ y ∈ names, y ∈ menu) : x.d.Fine 6 1 := by
  cases x with
  | row r t m =>
    obtain ⟨h1, h2, h3⟩ := h
    exact (FineL.tup (.cons (fine_str (by decide +kernel)) (.cons (fine_name (hr _ h1)) (.cons (fine_int h2.1 (by omega)) (.cons (fine_int h3.1 (by omega)) .nil))))).mono (by omega) (by omega)
  | knd n a t m =>
    obtain ⟨h1, h2, h3, h4⟩ := h
    exact (FineL.tup (.cons (fine_str (by decide +kernel)) (.cons (fine_name (hn _ h1)) (.cons (fine_int (by omega) (by omega)) (.cons (fine_int h3.1 (by omega)) (.cons (fine_int h4.1 (by omega)) .nil)))))).mono (by omega) (by omega)
theorem gd_fine {rows names : List Str} {g : List Nd} (h : GOk rows names 3 g) (hr : ∀ y ∈ rows, y ∈ menu) (hn : ∀ y ∈ names, y ∈ menu) : (gd g).Fine 19 2 := by
  have q := FineL.of (ds := g.map Nd.d) (n := 6) (m := 1) fun d hd => by
    obtain ⟨x, hx, rfl⟩ := List.mem_map.mp hd
    exact Nd.fine (h.ok x hx) hr hn
  refine q.tup.mono ?_ (by omega)
  rw [List.length_map]
  have := h.len
  omega
theorem kd_fine {rows names : List Str} {k : Kd} (h : KOk rows names k) (hk : k.name ∈ menu) (hr : ∀ y ∈ rows, y ∈ menu) (hn : ∀ y ∈ names, y ∈ menu) : k.d.Fine 90 4 := by
  have q := FineL.of (ds := k.gs.map gd) (n := 19) (m := 2) fun d hd => by
    obtain ⟨x, hx, rfl⟩ := List.mem_map.mp hd
    exact gd_fine (h.gs x hx) hr hn
  have len := h.len
  have k1 := h.keep
  have k2 := h.bar
  exact (FineL.tup (.cons (fine_name hk) (.cons (fine_int (by omega) (by omega)) (.cons (fine_int (by omega) (by omega)) (.cons q.tup .nil))))).mono (by rw [List.length_map]; omega) (by omega)
theorem BOk.name_in {B : Bk} (h : BOk B) {k : Kd} (hk : k ∈ B.kinds) : k.name ∈ menu := h.names.mem _ (List.mem_map_of_mem hk)
theorem BOk.kd_fine {B : Bk} (h : BOk B) {k : Kd} (hk : k ∈ B.kinds) : k.d.Fine 90 4 := Gy.kd_fine (h.kinds k hk) (h.name_in hk) h.rows.mem h.names.mem
theorem BOk.len {B : Bk} (h : BOk B) : B.kinds.length ≤ 15 := by
  have := h.names.len
  unfold Bk.names at this
  rw [List.length_map] at this
  exact this
theorem BOk.fine {B : Bk} (h : BOk B) : B.d.Fine 1400 6 := by
  have q1 := FineL.of (ds := B.rows.map D.str) (n := 1) (m := 0) fun d hd => by
    obtain ⟨x, hx, rfl⟩ := List.mem_map.mp hd
    exact fine_name (h.rows.mem x hx)
  have q2 := FineL.of (ds := B.kinds.map Kd.d) (n := 90) (m := 4) fun d hd => by
    obtain ⟨x, hx, rfl⟩ := List.mem_map.mp hd
    exact h.kd_fine hx
  have l1 := h.rows.len
  have l2 := h.len
  exact (FineL.tup (.cons q1.tup (.cons q2.tup .nil))).mono (by rw [List.length_map, List.length_map]; omega) (by omega)
theorem D.Fine.show {d : D} {n m : Nat} (h : d.Fine n m) (hn : n ≤ 100000) (hm : m ≤ 40) : d.ok = true ∧ d.shown.length ≤ sizeLine ∧ d.depth ≤ 40 := by
  obtain ⟨h1, _, _, _, h5⟩ := tame_all d h.tame
  have := h.nodes
  have := h.depth
  exact ⟨h1, by rw [sizeLine_eq]; omega, by omega⟩
theorem D.Fine.shaped {d : D} {n m : Nat} (h : d.Fine n m) (hm : m ≤ 40) : d.plain = true ∧ SeqAt.shaped d.py = true ∧ PyData.eqv d.py d.py = true := by
  obtain ⟨_, h2, h3, h4, _⟩ := tame_all d h.tame
  have := h.depth
  exact ⟨h2, by unfold SeqAt.shaped; rw [h3, Bool.true_and]; exact decide_eq_true (by omega), SeqAt.eqv_refl _ h3⟩
end Gy

namespace Gy
open PySem L2 PySem.Spec PyProof.Rows
/-! ### == of unlike things of equal content; of two tuples of the same things; of a text with anything -/
def SameV (x y : V) : Prop := (x = y ∧ flatB x = true) ∨ ∃ a, x = .ref a ∧ y = .ref a
theorem sameV_at {A : Around} {s : Shared} {xs ys : List V} (hp : Paired SameV xs ys) : ∀ {us ws : List Value}, Vals xs us → Vals ys ws → ∀ j (h1 : j < us.length) (h2 : j < ws.length), SeqAt.EqAt A s us[j] ws[j] true := by
  induction hp with
  | nil =>
    intro us ws r1 r2 j h1 h2
    cases r1
    exact absurd h1 (Nat.not_lt_zero j)
  | cons h _ k =>
    intro us ws r1 r2 j h1 h2
    cases r1 with
    | cons a1 b1 =>
      cases r2 with
      | cons a2 b2 =>
        cases j with
        | zero =>
          rcases h with ⟨rfl, f⟩ | ⟨a, rfl, rfl⟩
          · exact eqAt_same a1 a2 f
          · cases a1
            cases a2
            exact SeqAt.EqAt.same _
        | succ j => exact k b1 b2 j (Nat.lt_of_succ_lt_succ h1) (Nat.lt_of_succ_lt_succ h2)
theorem Rp.sameV {K : PySem.W.Frag} {H : Hp} {v : V} {d : D} (r : Rp K H v d) : SameV v v := by
  cases r with
  | non => exact .inl ⟨rfl, rfl⟩
  | bl b => exact .inl ⟨rfl, rfl⟩
  | int i => exact .inl ⟨rfl, rfl⟩
  | str x => exact .inl ⟨rfl, rfl⟩
  | lst e _ => exact .inr ⟨_, rfl, rfl⟩
  | tup e _ => exact .inr ⟨_, rfl, rfl⟩
  | dic e _ _ => exact .inr ⟨_, rfl, rfl⟩
  | exc e _ _ _ _ _ => exact .inr ⟨_, rfl, rfl⟩
section
variable {X : Cx}
def EqX (K : PySem.W.Frag) (H : Hp) (x y : V) : Prop := (∃ d, Rp K H x d ∧ Rp K H y d ∧ d.plain = true ∧ SeqAt.shaped d.py = true ∧ PyData.eqv d.py d.py = true) ∨ ∃ a b xs ys, x = .ref a ∧ y = .ref b ∧ SqT K H a xs ∧ SqT K H b ys ∧ Paired SameV xs ys
def rEqX (K : PySem.W.Frag) : R2 := fun x y H Q => EqX K H x y ∧ Q (.bl true) H
theorem op_eqX (hu : X.A.units + 64 < cLine) : OpR X (compareOp .Eq) (rEqX X.K) := by
  intro pins s σ H x y v u Q I rx ry h
  obtain ⟨⟨d, r1, r2, pl, sh, ev⟩ | ⟨a, b, xs, ys, rfl, rfl, ha, hb, hp⟩, q⟩ := h
  · exact op_eqD hu pins s σ H x y v u Q I rx ry ⟨d.py, d.py, r1.dp pl, r2.dp pl, sh, sh, by rw [ev]; exact q⟩
  · cases rx
    cases ry
    obtain ⟨us, r1, p1, _⟩ := I.tuple ha
    obtain ⟨ws, r2, p2, _⟩ := I.tuple hb
    refine SeqAt.rcIn_tuples (e := fun _ => true) (items := us.toArray) (items2 := ws.toArray) p1 p2 (by omega) (fun j h1 h2 => ?_) ?_
    · have k := sameV_at (A := X.A.in1) (s := s) hp r1 r2 j (by simpa using h1) (by simpa using h2)
      simpa using k.inModel X.prog X.w
    · have e1 : ((List.range (min us.toArray.size ws.toArray.size)).all fun _ => true) = true := List.all_eq_true.mpr fun _ _ => rfl
      have e2 : us.toArray.size = ws.toArray.size := by
        rw [List.size_toArray, List.size_toArray, ← r1.length, ← r2.length]
        exact Paired.length hp
      rw [e1, e2, beq_self_eq_true]
      exact ⟨.bl true, H, I, rfl, q⟩
theorem dict_declines (l : Addr) (dt : Data) (dd : Option Addr) (sl : Array (Option Value)) (b : Str) (u : Tok) :
    Meets (Builtin.«dict.__eq__» ⟨[.ref l, .str b u], []⟩) (fun _ R s => s.heap.get? l = some { cls := .type "dict", dict := dd, data := dt, slots := sl } ∧ R (.ok (.ret .notImplemented)) s) :=
  .of_wp fun prog w A R s h => by obtain ⟨hp, g, d, tk, os⟩ := s; obtain ⟨hl, h⟩ := h; have f1 := F.sub_str_dict; wp_walk using AutoSeq1.wpAny_loadPart' hl; exact ⟨_, rfl, h⟩
theorem str_declines (b : Str) (u : Tok) (l : Addr) (c : Value) (es : Array DictEntry) (ep : Nat) (dd : Option Addr) (sl : Array (Option Value)) :
    Meets (Builtin.«str.__eq__» ⟨[.str b u, .ref l], []⟩) (fun _ R s => s.heap.get? l = some { cls := c, dict := dd, data := .dict es ep, slots := sl } ∧ R (.ok (.ret .notImplemented)) s) :=
  .of_wp fun prog w A R s h => by obtain ⟨hp, g, d, tk, os⟩ := s; obtain ⟨hl, h⟩ := h; wp_walk using AutoSeq1.wpAny_loadPart' hl, wpAny_load hl; exact ⟨_, rfl, h⟩
/-- a text against anything -/
def rEqS (K : PySem.W.Frag) : R2 := fun x y H Q => ∃ z, x = .str z ∧ (∃ d, Rp K H y d ∧ d.top = true) ∧ Q (.bl (decide (y = .str z))) H
theorem op_eqS (hu : X.A.units + 64 < cLine) : OpR X (compareOp .Eq) (rEqS X.K) := by
  intro pins s σ H x y v u Q I rx ry h
  obtain ⟨z, rfl, ⟨d, r, ht⟩, q⟩ := h
  have hu' : X.A.units < cLine := by omega
  have off : ∀ {a : Addr}, y = .ref a → EP X pins σ Q (.bool false) s := fun e => ⟨.bl false, H, I, rfl, by rw [e] at q; exact q⟩
  cases r with
  | non => exact op_eq pins s σ H _ _ v u Q I rx ry ⟨rfl, by simpa using q⟩
  | bl b => exact op_eq pins s σ H _ _ v u Q I rx ry ⟨rfl, by simpa using q⟩
  | int i => exact op_eq pins s σ H _ _ v u Q I rx ry ⟨rfl, by simpa using q⟩
  | str w => exact op_eq pins s σ H _ _ v u Q I rx ry ⟨rfl, by simpa [eq_comm] using q⟩
  | @lst a xs ds e ha =>
    obtain ⟨t, rfl⟩ := rx
    cases ry
    obtain ⟨us, r1, p1, _⟩ := I.list (SqL.of e)
    exact SeqAt.RcAt.str_list z t p1.isList hu' X.prog X.w _ _ (off rfl)
  | @tup a xs ds e ha =>
    obtain ⟨t, rfl⟩ := rx
    cases ry
    obtain ⟨us, r1, p1, _⟩ := I.tuple (SqT.of e)
    exact SeqAt.RcAt.str_tuple z t p1 hu' X.prog X.w _ _ (off rfl)
  | @dic a ks xs ds e hl ha =>
    obtain ⟨t, rfl⟩ := rx
    cases ry
    obtain ⟨_, _, vs, _, o, es, ep, hg, hx, hdat, _⟩ := (show ObjOk X.prog X.w H s.heap a (.dK (List.zipWith (fun k v => (Sum.inr k, v)) ks xs)) from I.hok a _ e)
    obtain ⟨c, dd, dt, sl⟩ := o
    have hc : c = .type "dict" := hx.1
    have he : dt = .dict es ep := hdat
    subst hc
    subst he
    exact SeqAt.rc_eq_decline_or (k := false) (typeIs_str s z t) ⟨_, hg, rfl⟩ (by decide) F.sub_dict_str F.slot_str_eq F.slot_dict_eq_refl
      (fun _ hq => call_meets F.slot_str_eq (typeIs_str s z t) F.entry_str_eq (F.args_str_eq_2 _ _) (str_declines z t a (.type "dict") es ep dd sl) ⟨hg, hq⟩)
      (fun _ hq => call_meets F.slot_dict_eq_refl ⟨_, hg, rfl⟩ F.entry_dict_eq (F.args_dict_eq_2 _ _) (dict_declines a (.dict es ep) dd sl z t) ⟨hg, hq⟩)
      (fun _ hq => wpAny_of_eq (rfl : isSame (.str z t) (.ref a) = pure false) hq) (.inr hu') (off rfl)
  | exc _ _ _ _ _ _ => cases ht
end
end Gy

namespace Gy
open PySem L2 PySem.Spec PyProof.Rows
/-! ### a book as it lies -/
theorem Kd.rp {K : PySem.W.Frag} {H : Hp} {v : V} {k : Kd} (r : Rp K H v k.d) : ∃ a g gvs, v = .ref a ∧ H a = some (.tup [.str k.name, .int k.keep, .int k.bar, .ref g]) ∧ H g = some (.tup gvs) ∧ RpAll K H gvs (k.gs.map gd) := by
  unfold Kd.d at r
  cases r with
  | tup e r =>
    cases r with
    | cons r1 r =>
      cases r with
      | cons r2 r =>
        cases r with
        | cons r3 r =>
          cases r with
          | cons r4 r =>
            cases r
            cases r1
            cases r2
            cases r3
            cases r4 with
            | tup e4 r4 => exact ⟨_, _, _, rfl, e, e4, r4⟩
theorem gd_rp {K : PySem.W.Frag} {H : Hp} {v : V} {g : List Nd} (r : Rp K H v (gd g)) : ∃ a nvs, v = .ref a ∧ H a = some (.tup nvs) ∧ RpAll K H nvs (g.map Nd.d) := by
  unfold gd at r
  cases r with
  | tup e r => exact ⟨_, _, rfl, e, r⟩
theorem at_of {α : Type} {f : α → D} {K : PySem.W.Frag} {H : Hp} {vs : List V} {xs : List α} {i : Nat} {v : V} (r : RpAll K H vs (xs.map f)) (h : vs[i]? = some v) : ∃ x, xs[i]? = some x ∧ Rp K H v (f x) := by
  obtain ⟨d, hd, rd⟩ := RpAll.at r h
  rw [List.getElem?_map] at hd
  cases z : xs[i]? with
  | none => rw [z] at hd; cases hd
  | some x =>
    rw [z] at hd
    cases hd
    exact ⟨x, rfl, rd⟩
theorem at_to {α : Type} {f : α → D} {K : PySem.W.Frag} {H : Hp} {vs : List V} {xs : List α} {i : Nat} {x : α} (r : RpAll K H vs (xs.map f)) (h : xs[i]? = some x) : ∃ v, vs[i]? = some v ∧ Rp K H v (f x) := by
  have l : i < vs.length := by rw [r.len, List.length_map]; exact (List.getElem?_eq_some_iff.mp h).1
  obtain ⟨y, hy, ry⟩ := at_of r (List.getElem?_eq_getElem l)
  rw [h] at hy
  cases hy
  exact ⟨_, List.getElem?_eq_getElem l, ry⟩
/-- a comprehension whose items are new or old data of tuples -/
theorem lc_map {K : PySem.W.Frag} {J : It} {n : Nat} {G : Hp → Prop} {Y : Nat → Hp → V → Hp → Prop} (wk : Walk J n G Y) {g : TG} {te : TE} {σ : L2.St} {vs : List Nat} {Dx : Addr} {H1 : Hp} {Qd : Hp → Prop} (ds : List Gy.D) (hd : ds.length = n) (hf : Gy.D.flatAll ds = true) (nD : H1 Dx = none) (hn : n ≤ 100000)
    (hG : ∀ H', Same H1 H' → G H')
    (turn : ∀ i d x H' H'' (Q : VK), i < n → ds[i]? = some d → Same H1 H' → Y i H' x H'' → (∀ y H2, Same H' H2 → Rp K H2 y d → Q y H2) → g x (wipe σ vs) H'' fun σ2 H2 => wipe σ2 vs = wipe σ vs ∧ te σ2 H2 Q)
    (fin : ∀ (H' : Hp) (ys : List V), Same H1 H' → H' Dx = some (.lst ys) → RpAll K H' ys ds → Qd H')
    (mono : ∀ x σ' H' (A B : L2.St → Hp → Prop), (∀ σ2 H2, A σ2 H2 → B σ2 H2) → g x σ' H' A → g x σ' H' B) :
    ∃ W : Nat → Nat → Hp → Prop, (∃ m, W 0 m (upd H1 Dx (.lst []))) ∧ ∀ i m H, W i m H →
      (J.stop i H ∧ Qd H) ∨ (J.go i H ∧ ∃ Nx : Hp → Prop, (∀ H', Nx H' → ∃ m', m' < m ∧ W (i + 1) m' H') ∧ ∀ x H', J.yld i H x H' → g x (wipe σ vs) H' fun σ2 H2 => wipe σ2 vs = wipe σ vs ∧ tYes σ2 H2 fun bb H3 => if bb = true then te σ2 H3 fun y H4 => ∃ acc, H4 Dx = some (.lst acc) ∧ acc.length < sizeLine ∧ Nx (upd H4 Dx (.lst (acc ++ [y]))) else Nx H3) := by
  have flt : ∀ (l : List Gy.D), Gy.D.flatAll l = true → ∀ i, Gy.D.flatAll (l.take i) = true := by
    intro l
    induction l with
    | nil => intro _ i; rw [List.take_nil]; rfl
    | cons x l ih =>
      intro h i
      simp only [Gy.D.flatAll, Bool.and_eq_true] at h
      cases i with
      | zero => rfl
      | succ i => rw [List.take_succ_cons]; simp only [Gy.D.flatAll, h.1, ih h.2 i, Bool.and_self]
  have fla : ∀ (l : List Gy.D), Gy.D.flatAll l = true → ∀ d ∈ l, d.flat = true := by
    intro l
    induction l with
    | nil => intro _ d hd; cases hd
    | cons x l ih =>
      intro h d hd
      simp only [Gy.D.flatAll, Bool.and_eq_true] at h
      rcases List.mem_cons.mp hd with e | e
      · rw [e]; exact h.1
      · exact ih h.2 d e
  refine lc_it wk (fun i H' => Same H1 H' ∧ ∃ ys, H' Dx = some (.lst ys) ∧ RpAll K H' ys (ds.take i)) ⟨same_put (Same.refl H1) nD, [], upd_same, .nil⟩ (fun i H' _ z => hG H' z.1) ?_ ?_
  · rintro i x H' H'' hi ⟨s, ys, hD, r⟩ y
    obtain ⟨d, hdi⟩ : ∃ d, ds[i]? = some d := ⟨_, List.getElem?_eq_getElem (by omega)⟩
    refine mono _ _ _ _ _ (fun σ2 H2 z => ⟨z.1, tyes_go z.2⟩) (turn i d x H' H'' (fun v H4 => ∃ acc, H4 Dx = some (.lst acc) ∧ acc.length < sizeLine ∧ (Same H1 (upd H4 Dx (.lst (acc ++ [v]))) ∧ ∃ ys, (upd H4 Dx (.lst (acc ++ [v]))) Dx = some (.lst ys) ∧ RpAll K (upd H4 Dx (.lst (acc ++ [v]))) ys (ds.take (i + 1)))) hi hdi s y fun v H2 s2 rv => ?_)
    have hD2 := s2 _ _ hD
    have T3 : Tups H2 (upd H2 Dx (.lst (ys ++ [v]))) := Tups.put hD2
    have ly : ys.length = i := by rw [r.len, List.length_take]; omega
    refine ⟨ys, hD2, by rw [ly, sizeLine_eq]; omega, same_put (s.trans s2) nD, _, upd_same, ?_⟩
    rw [List.take_succ, hdi]
    exact (r.tups ((Tups.same s2).trans T3) (flt ds hf i)).append (.cons (Rp.tups T3 rv (fla ds hf d (List.mem_of_getElem? hdi))) .nil)
  · rintro H' ⟨s, ys, hD, r⟩
    rw [← hd, List.take_length] at r
    exact fin H' ys s hD r
theorem gName_mono {j : Nat} : ∀ x σ' H' (A B : L2.St → Hp → Prop), (∀ σ2 H2, A σ2 H2 → B σ2 H2) → gName j x σ' H' A → gName j x σ' H' B := fun x σ' H' A B h q => h _ _ q
/-! ### kind_of -/
abbrev sKof : Stmt := top 6
def spKof (K : PySem.W.Frag) (CN : Addr) : Sp := fun vs H Q E => ∃ (p : Addr) (v : V) (B : Bk), vs = [.ref p, v] ∧ Rp K H (.ref p) B.d ∧ (∃ d, Rp K H v d ∧ d.top = true) ∧
  (∀ a k, k ∈ B.kinds → v = .str k.name → Rp K H (.ref a) k.d → Q (.ref a) H) ∧
  ((∀ k ∈ B.kinds, v ≠ .str k.name) → ∀ dd H', Same H H' → H' dd = some (.xd [("name", v)]) → E (.ref CN) (some dd) H')
section
variable {P : Program} {w : World} {K : PySem.W.Frag} {mg : Str → Option Value} {base : Heap}
theorem scKof : FnScope ["rulebook", "name", "kind"] ["rulebook", "name"] (defScope sKof) := ⟨rfl, rfl, rfl, by decide +kernel, rfl, by decide +kernel, by decide +kernel⟩
theorem ok_kof {f CN : Addr} {fd : FuncData} (F : Fun K "kind_of" "kind_of" sKof f fd) (M : Mk1 P w K mg base "NoKind" CN "name") : FnOk P w K mg base (L2.CX P w) 3 f fd ["rulebook", "name"] (spKof K CN) := by
  refine F.okX scKof (fun vs H Q E h => ?_) (fun cdv A outer s H vs Q E hr h => ?_)
  · obtain ⟨p, v, B, rfl, _⟩ := h
    rfl
  · obtain ⟨p, v, B, rfl, rp, ⟨d, rv, hd⟩, kQ, kE⟩ := h
    have nd := scKof.nd
    have hu := hr.units
    refine ⟨_, pss_cons (ps_for (passes_of rfl) rfl (pi_tup (pe_ix ix_tup (pv 0) pe_int (fun _ _ => rfl))) (pg_name (i := 2) nd rfl (Or.inl rfl))
        (pss_one (ps_if (pt_cmpR (op_eqS hu) (pe_ix ix_tup (pv 2) pe_int (fun _ _ => rfl)) (pv 1) (nomark _)) (pss_one (ps_ret (pv 2))) pss_nil)))
      (pss_one (ps_raiseQ (K := K) (H0 := H) rfl (takes_of rfl rfl rfl rfl) rfl rfl rfl (pe_mk1 M hr rfl (pa_cons (pv 1) pa_nil)))), ?_⟩
    obtain ⟨pr, pk, ks, hp, hpr, hpk, rks⟩ := Bk.rp_rows rp
    refine ⟨_, rfl, p, _, 1, .ref pk, rfl, rfl, SqT.of hp, atI_nat (j := 1) rfl, pk, rfl, ⟨_, SqT.of hpk⟩, for_tup (xs := ks) (fun i σ' H' => (∃ x, σ' = [some (.ref p), some v, x]) ∧ H' = H ∧ ∀ j, j < i → ∀ k, B.kinds[j]? = some k → v ≠ .str k.name)
      ⟨⟨_, rfl⟩, rfl, fun j hj => absurd hj (Nat.not_lt_zero j)⟩ (fun i σ' H' _ z => by rw [z.2.1]; exact SqT.of hpk) ?_ ?_⟩
    · rintro i x σ' H' hi ⟨⟨x2, rfl⟩, rfl, no⟩
      obtain ⟨k, hk, rk⟩ := at_of rks hi
      obtain ⟨a, g, gvs, rfl, ha, hg, rg⟩ := Kd.rp rk
      refine ⟨_, rfl, a, _, 0, .str k.name, rfl, rfl, SqT.of ha, atI_nat (j := 0) rfl, _, rfl, k.name, rfl, ⟨d, rv, hd⟩, _, rfl, ite2 (fun e => ⟨_, rfl, kQ a k (List.mem_of_getElem? hk) (of_decide_eq_true e) rk⟩) fun e => ⟨⟨_, rfl⟩, rfl, fun j hj k' hk' => ?_⟩⟩
      rcases Nat.lt_succ_iff_lt_or_eq.mp hj with z | z
      · exact no j z k' hk'
      · subst z
        rw [hk] at hk'
        cases hk'
        exact fun y => e (decide_eq_true y)
    · rintro σ' H' ⟨⟨x2, rfl⟩, rfl, no⟩
      refine ⟨_, rfl, [("name", v)], rfl, fun e H2 s2 n2 ⟨dd, t, nd', _, he, hd', ht⟩ => ⟨e, CN, some dd, t, rfl, n2, he, M.q, .inr ⟨dd, _, rfl, hd', ?_⟩⟩⟩
      refine kE (fun k hk => ?_) dd _ (raised_same s2 n2 nd') upd_same
      obtain ⟨j, hj⟩ := List.getElem?_of_mem hk
      have l := (List.getElem?_eq_some_iff.mp hj).1
      exact no j (by rw [rks.len, List.length_map]; exact l) k hj
end
end Gy

namespace Gy
open PySem L2 PySem.Spec PyProof.Rows
/-! ### places, dead grounds: what they are -/
structure Pl where
  n : Str
  g : Nat
  j : Nat
def Pl.d (p : Pl) : D := .tup [.str p.n, .int p.g, .int p.j]
def plG (k : Kd) (g : Nat) : List Pl := (List.range (k.gs.getD g []).length).map fun j => ⟨k.name, g, j⟩
def plK (k : Kd) : List Pl := (List.range k.gs.length).flatMap (plG k)
def Bk.places (B : Bk) : List Pl := B.kinds.flatMap plK
def Bk.keepOf (B : Bk) (n : Str) : Int := match B.kinds.find? fun k => decide (k.name = n) with
  | some k => k.keep
  | none => 0
def Bk.deadN (B : Bk) : Nd → Bool
  | .row _ _ _ => false
  | .knd n a _ _ => decide (B.keepOf n ≤ a)
/-- a ground's name and index -/
def dgD (q : Str × Nat) : D := .tup [.str q.1, .int q.2]
def ddG (B : Bk) (k : Kd) (g : Nat) : List (Str × Nat) := if (k.gs.getD g []).any B.deadN then [(k.name, g)] else []
def ddK (B : Bk) (k : Kd) : List (Str × Nat) := (List.range k.gs.length).flatMap (ddG B k)
def Bk.dead (B : Bk) : List (Str × Nat) := B.kinds.flatMap (ddK B)
theorem flatMap_take {α β : Type} (f : α → List β) {l : List α} {i : Nat} {x : α} (h : l[i]? = some x) : (l.take (i + 1)).flatMap f = (l.take i).flatMap f ++ f x := by
  rw [List.take_succ, h, List.flatMap_append]
  simp
theorem flatMap_range {β : Type} (f : Nat → List β) (j : Nat) : (List.range (j + 1)).flatMap f = (List.range j).flatMap f ++ f j := by
  rw [List.range_succ, List.flatMap_append]
  simp
theorem flatMap_len {α β : Type} {f : α → List β} {c : Nat} : ∀ {l : List α}, (∀ x ∈ l, (f x).length ≤ c) → (l.flatMap f).length ≤ c * l.length
  | [], _ => Nat.zero_le _
  | x :: l, h => by
    rw [List.flatMap_cons, List.length_append, List.length_cons, Nat.mul_succ]
    have := h x List.mem_cons_self
    have := flatMap_len (f := f) (c := c) (l := l) fun y m => h y (List.mem_cons_of_mem _ m)
    omega
theorem getD_of {α : Type} {l : List α} {i : Nat} {x d : α} (h : l[i]? = some x) : l.getD i d = x := by
  rw [List.getD_eq_getElem?_getD, h]
  rfl
theorem getD_mem {α : Type} {l : List α} {i : Nat} {d : α} (h : i < l.length) : l.getD i d ∈ l := by
  rw [getD_of (List.getElem?_eq_getElem h)]
  exact List.getElem_mem h
theorem plG_len {rows names : List Str} {k : Kd} (h : KOk rows names k) (g : Nat) (hg : g < k.gs.length) : (plG k g).length ≤ 3 := by
  unfold plG
  rw [List.length_map, List.length_range]
  exact (h.gs _ (getD_mem hg)).len
theorem plK_len {rows names : List Str} {k : Kd} (h : KOk rows names k) : (plK k).length ≤ 12 := by
  have q := flatMap_len (f := plG k) (c := 3) (l := List.range k.gs.length) fun g hg => plG_len h g (List.mem_range.mp hg)
  rw [List.length_range] at q
  have := h.len
  unfold plK
  omega
theorem BOk.places_len {B : Bk} (h : BOk B) : B.places.length ≤ 180 := by
  have q := flatMap_len (f := plK) (c := 12) (l := B.kinds) fun k hk => plK_len (h.kinds k hk)
  have := h.len
  unfold Bk.places
  omega
theorem ddG_len (B : Bk) (k : Kd) (g : Nat) : (ddG B k g).length ≤ 1 := by
  unfold ddG
  split <;> simp
theorem ddK_len {B : Bk} {k : Kd} (h : BOk B) (hk : k ∈ B.kinds) : (ddK B k).length ≤ 4 := by
  have q := flatMap_len (f := ddG B k) (c := 1) (l := List.range k.gs.length) fun g _ => ddG_len B k g
  rw [List.length_range] at q
  have := (h.kinds k hk).len
  unfold ddK
  omega
theorem BOk.dead_len {B : Bk} (h : BOk B) : B.dead.length ≤ 60 := by
  have q := flatMap_len (f := ddK B) (c := 4) (l := B.kinds) fun k hk => ddK_len h hk
  have := h.len
  unfold Bk.dead
  omega
/-- where a place lies -/
def Pl.at (p : Pl) (B : Bk) : Prop := ∃ k gr nd, k ∈ B.kinds ∧ k.name = p.n ∧ k.gs[p.g]? = some gr ∧ gr[p.j]? = some nd
theorem places_at {B : Bk} : ∀ p ∈ B.places, p.at B := fun p hp => by
  obtain ⟨k, hk, hp⟩ := List.mem_flatMap.mp hp
  obtain ⟨g, hg, hp⟩ := List.mem_flatMap.mp hp
  obtain ⟨j, hj, rfl⟩ := List.mem_map.mp hp
  have hg := List.mem_range.mp hg
  have hj := List.mem_range.mp hj
  have e := List.getElem?_eq_getElem hg
  rw [getD_of e] at hj
  exact ⟨k, _, _, hk, rfl, e, List.getElem?_eq_getElem hj⟩
theorem dead_in {B : Bk} : ∀ p ∈ B.dead, ∃ k ∈ B.kinds, k.name = p.1 ∧ p.2 < k.gs.length := fun p hp => by
  obtain ⟨k, hk, hp⟩ := List.mem_flatMap.mp hp
  obtain ⟨g, hg, hp⟩ := List.mem_flatMap.mp hp
  unfold ddG at hp
  split at hp
  · rw [List.mem_singleton.mp hp]
    exact ⟨k, hk, rfl, List.mem_range.mp hg⟩
  · cases hp
theorem keepOf_at {B : Bk} (h : BOk B) {k : Kd} (hk : k ∈ B.kinds) : B.keepOf k.name = k.keep := by
  have nd := h.names.nd
  unfold Bk.names at nd
  unfold Bk.keepOf
  have : ∀ {l : List Kd}, (l.map Kd.name).Nodup → k ∈ l → l.find? (fun k' => decide (k'.name = k.name)) = some k := by
    intro l
    induction l with
    | nil => intro _ m; cases m
    | cons x l ih =>
      intro nd m
      rw [List.map_cons, List.nodup_cons] at nd
      rcases List.mem_cons.mp m with rfl | m
      · simp
      · have hne : x.name ≠ k.name := fun e => nd.1 (e ▸ List.mem_map_of_mem m)
        rw [List.find?_cons]
        simp only [hne, decide_false]
        exact ih nd.2 m
  rw [this nd hk]
theorem Pl.flat : ∀ ps : List Pl, D.flatAll (ps.map Pl.d) = true
  | [] => rfl
  | p :: ps => by simp only [List.map_cons, D.flatAll, Pl.d, D.flat, Pl.flat ps, Bool.and_self]
theorem dg_flat : ∀ ps : List (Str × Nat), D.flatAll (ps.map dgD) = true
  | [] => rfl
  | p :: ps => by simp only [List.map_cons, D.flatAll, dgD, D.flat, dg_flat ps, Bool.and_self]
/-! ### a growing list of a def's own -/
structure Grow (K : PySem.W.Frag) (H1 H : Hp) (L : Addr) (ds : List D) : Prop where
  same : Same H1 H
  ex : ∃ ys, H L = some (.lst ys) ∧ RpAll K H ys ds
theorem Grow.start {K : PySem.W.Frag} {H1 : Hp} {L : Addr} (nL : H1 L = none) : Grow K H1 (upd H1 L (.lst [])) L [] := ⟨same_put (Same.refl H1) nL, [], upd_same, .nil⟩
theorem Grow.later {K : PySem.W.Frag} {H1 H H' : Hp} {L : Addr} {ds : List D} (g : Grow K H1 H L ds) (hf : D.flatAll ds = true) (s : Same H H') : Grow K H1 H' L ds := by
  obtain ⟨ys, hL, r⟩ := g.ex
  exact ⟨g.same.trans s, ys, s _ _ hL, r.tups (Tups.same s) hf⟩
theorem Grow.more {K : PySem.W.Frag} {H1 H : Hp} {L : Addr} {ds es : List D} {zs : List V} (g : Grow K H1 H L ds) (nL : H1 L = none) (hf : D.flatAll ds = true) (he : D.flatAll es = true) (r : RpAll K H zs es) :
    ∃ ys, H L = some (.lst ys) ∧ ys.length = ds.length ∧ Grow K H1 (upd H L (.lst (ys ++ zs))) L (ds ++ es) := by
  obtain ⟨ys, hL, r0⟩ := g.ex
  have T : Tups H (upd H L (.lst (ys ++ zs))) := Tups.put hL
  exact ⟨ys, hL, r0.len, same_put g.same nL, _, upd_same, (r0.tups T hf).append (r.tups T he)⟩
end Gy

namespace Gy
open PySem L2 PySem.Spec PyProof.Rows
/-- a def at hand that may raise -/
structure CalX (P : Program) (w : World) (K : PySem.W.Frag) (mg : Str → Option Value) (base : Heap) (k : Nat) (x : Str) (ps : List Str) (sp : Sp) : Prop where
  ex : ∃ (f : Addr) (fd : FuncData), mg x = some (.ref f) ∧ L2.Binds K fd ps [] ∧ PySem.W.keepIn K (.ref f) = true ∧ FnOk P w K mg base (L2.CX P w) k f fd ps sp
theorem pe_calX {X : Cx} {k : Nat} {x : Str} {ps : List Str} {sp : Sp} {e : Expr} {es : List Expr} {t : TA} {p pos : Pos} (C : CalX X.prog X.w X.K X.mg X.base k x ps sp) (hr : Room k X.A) (hg : Gl X x) (ha : PA X (e :: es) t)
    (hdb : (x == ("__debug__" : Str)) = false := by decide) (he : starEach (e :: es) X.env = (false, eval e X.env) :: starEach es X.env := by rfl) (hpl : (backTo pos (starEach es X.env)).any (·.1) = false := by rfl) :
    PE X (.Call (.Name x p) (e :: es) [] pos) (tCall sp [] E0 t) := by
  obtain ⟨f, fd, hm, hb, hk, F⟩ := C.ex
  exact pe_call F hr hg hm hk hb .nil passL ha hdb he hpl
theorem name_inj : ∀ {l : List Kd}, (l.map Kd.name).Nodup → ∀ {k k' : Kd}, k ∈ l → k' ∈ l → k.name = k'.name → k = k'
  | x :: l, nd, k, k', h, h', e => by
    rw [List.map_cons, List.nodup_cons] at nd
    rcases List.mem_cons.mp h with y | y
    · rcases List.mem_cons.mp h' with z | z
      · rw [y, z]
      · rw [y] at e
        exact absurd (e ▸ List.mem_map_of_mem z) nd.1
    · rcases List.mem_cons.mp h' with z | z
      · rw [z] at e
        exact absurd (e ▸ List.mem_map_of_mem y) nd.1
      · exact name_inj nd.2 y z e
theorem BOk.inj {B : Bk} (h : BOk B) {k k' : Kd} (hk : k ∈ B.kinds) (hk' : k' ∈ B.kinds) (e : k.name = k'.name) : k = k' := name_inj h.names.nd hk hk' e
theorem BOk.kind {B : Bk} (h : BOk B) {n : Str} (hn : n ∈ B.names) : ∃ k ∈ B.kinds, k.name = n := List.mem_map.mp hn
theorem rp_bls {K : PySem.W.Frag} {H : Hp} : ∀ {bs : List Bool} {xs : List V}, RpAll K H xs (bs.map D.bl) → xs = bs.map V.bl
  | [], _, .nil => rfl
  | b :: bs, _, .cons r rs => by
    cases r
    rw [rp_bls rs]
    rfl
theorem bl_flat : ∀ bs : List Bool, D.flatAll (bs.map D.bl) = true
  | [] => rfl
  | b :: bs => by simp only [List.map_cons, D.flatAll, D.flat, bl_flat bs, Bool.and_self]
/-! ### need_at, is_dead_need, dead_grounds -/
def spNeedAt (K : PySem.W.Frag) : Sp := fun vs H Q _ => ∃ (p q : Addr) (B : Bk) (k : Kd) (g j : Nat) (gr : List Nd) (n : Nd), vs = [.ref p, .ref q] ∧ Rp K H (.ref p) B.d ∧ BOk B ∧ H q = some (.tup [.str k.name, .int g, .int j]) ∧ k ∈ B.kinds ∧ k.gs[g]? = some gr ∧ gr[j]? = some n ∧
  ∀ v, Rp K H v n.d → Q v H
def spDeadN (K : PySem.W.Frag) : Sp := fun vs H Q _ => ∃ (p : Addr) (v : V) (B : Bk) (n : Nd), vs = [.ref p, v] ∧ Rp K H (.ref p) B.d ∧ BOk B ∧ Rp K H v n.d ∧ n.ok B.rows B.names ∧ Q (.bl (B.deadN n)) H
def spDeadG (K : PySem.W.Frag) : Sp := fun vs H Q _ => ∃ (p : Addr) (B : Bk), vs = [.ref p] ∧ Rp K H (.ref p) B.d ∧ BOk B ∧
  ∀ (l : Addr) (H' : Hp) (ys : List V), Same H H' → H l = none → H' l = some (.lst ys) → RpAll K H' ys (B.dead.map dgD) → Q (.ref l) H'
section
variable {P : Program} {w : World} {K : PySem.W.Frag} {mg : Str → Option Value} {base : Heap}
end
end Gy

namespace Gy
open PySem L2 PySem.Spec PyProof.Rows
/-! ### dials: what they are; number_at, numbers_at -/
def wd : Nat → Str
  | 0 => "tell"
  | 1 => "most"
  | _ => "after"
def Nd.num : Nd → Nat → Int
  | .row _ t _, 0 => t
  | .row _ _ m, _ => m
  | .knd _ _ t _, 0 => t
  | .knd _ _ _ m, 1 => m
  | .knd _ a _ _, _ => a
def Nd.has : Nd → Nat → Prop
  | .row _ _ _, w => w < 2
  | .knd _ _ _ _, w => w < 3
inductive Dl where
  | kd (n : Str) (b : Bool)
  | nd (p : Pl) (w : Nat)
def Dl.d : Dl → D
  | .kd n b => .tup [.str n, .str (if b then "keep" else "bar")]
  | .nd p w => .tup [p.d, .str (wd w)]
def Dl.ok (B : Bk) : Dl → Prop
  | .kd n _ => n ∈ B.names
  | .nd p w => ∃ k gr nd, k ∈ B.kinds ∧ k.name = p.n ∧ k.gs[p.g]? = some gr ∧ gr[p.j]? = some nd ∧ nd.has w
def Bk.kindOf (B : Bk) (n : Str) : Option Kd := B.kinds.find? fun k => decide (k.name = n)
def Dl.num (B : Bk) : Dl → Int
  | .kd n b => match B.kindOf n with
    | some k => if b then k.keep else k.bar
    | none => 0
  | .nd p w => match B.kindOf p.n with
    | some k => ((k.gs.getD p.g []).getD p.j (.row "" 0 0)).num w
    | none => 0
theorem kindOf_at {B : Bk} (h : BOk B) {k : Kd} (hk : k ∈ B.kinds) : B.kindOf k.name = some k := by
  have nd := h.names.nd
  unfold Bk.names at nd
  unfold Bk.kindOf
  revert nd hk
  generalize B.kinds = l
  intro hk nd
  induction l with
  | nil => cases hk
  | cons x l ih =>
    rw [List.map_cons, List.nodup_cons] at nd
    rcases List.mem_cons.mp hk with e | m
    · subst e
      simp
    · have hne : x.name ≠ k.name := fun e => nd.1 (e ▸ List.mem_map_of_mem m)
      rw [List.find?_cons]
      simp only [hne, decide_false]
      exact ih m nd.2
theorem Dl.flat : ∀ ps : List Dl, D.flatAll (ps.map Dl.d) = true
  | [] => rfl
  | .kd _ _ :: ps => by simp only [List.map_cons, D.flatAll, Dl.d, D.flat, Dl.flat ps, Bool.and_self]
  | .nd p _ :: ps => by simp only [List.map_cons, D.flatAll, Dl.d, Pl.d, D.flat, Dl.flat ps, Bool.and_self]
def Nd.vs : Nd → List V
  | .row r t m => [.str "row", .str r, .int t, .int m]
  | .knd n a t m => [.str "kind", .str n, .int a, .int t, .int m]
theorem nd_rp {K : PySem.W.Frag} {H : Hp} {v : V} {n : Nd} (r : Rp K H v n.d) : ∃ q, v = .ref q ∧ H q = some (.tup n.vs) := by
  cases n with
  | row a t m =>
    unfold Nd.d at r
    cases r with
    | tup e r => exact ⟨_, rfl, by rw [e]; cases r with | cons r1 r => cases r with | cons r2 r => cases r with | cons r3 r => cases r with | cons r4 r => cases r; cases r1; cases r2; cases r3; cases r4; rfl⟩
  | knd a x t m =>
    unfold Nd.d at r
    cases r with
    | tup e r => exact ⟨_, rfl, by rw [e]; cases r with | cons r1 r => cases r with | cons r2 r => cases r with | cons r3 r => cases r with | cons r4 r => cases r with | cons r5 r => cases r; cases r1; cases r2; cases r3; cases r4; cases r5; rfl⟩
theorem pl_rp {K : PySem.W.Frag} {H : Hp} {v : V} {p : Pl} (r : Rp K H v p.d) : ∃ q, v = .ref q ∧ H q = some (.tup [.str p.n, .int p.g, .int p.j]) := by
  unfold Pl.d at r
  cases r with
  | tup e r => exact ⟨_, rfl, by rw [e]; cases r with | cons r1 r => cases r with | cons r2 r => cases r with | cons r3 r => cases r; cases r1; cases r2; cases r3; rfl⟩
/-- a tuple of texts of the written part -/
def KTup (K : PySem.W.Frag) (a : Addr) (ss : List Str) : Prop := ∃ (o : Obj) (its : Array Value) (n : Nat), K.lookup a = some o ∧ o.cls = .type "tuple" ∧ o.dict = none ∧ o.data = .seq its n ∧ its.size ≤ sizeLine ∧ Vals (ss.map V.str) its.toList
theorem KTup.sq {K : PySem.W.Frag} {a : Addr} {ss : List Str} (h : KTup K a ss) (H : Hp) : SqT K H a (ss.map V.str) := let ⟨o, its, n, h1, h2, _, h3⟩ := h; .inr ⟨o, its, n, h1, h2, h3⟩
theorem KTup.ty {K : PySem.W.Frag} {a : Addr} {ss : List Str} (h : KTup K a ss) (H : Hp) : tyV K "tuple" (.ref a) H := let ⟨o, its, n, h1, h2, h3, _⟩ := h; .inr (.inl ⟨rfl, o, h1, h2, h3⟩)
structure TxtW (K : PySem.W.Frag) (w : World) (mg : Str → Option Value) (aN aR aK aW : Addr) : Prop where
  gN : mg "NEED_WORDS" = some (.ref aN)
  gW : mg "KIND_WORDS" = some (.ref aW)
  dR : KDct K w aN "row" (.ref aR)
  dK : KDct K w aN "kind" (.ref aK)
  tR : KTup K aR ["tell", "most"]
  tK : KTup K aK ["after", "tell", "most"]
  tW : KTup K aW ["keep", "bar"]
  isi : mg "isinstance" = none
  tup : mg "tuple" = none
  yes : PySem.W.kitOne K (.type "tuple") (.type "tuple") = some true
  no : PySem.W.kitOne K (.type "str") (.type "tuple") = some false
def spNumAt (K : PySem.W.Frag) : Sp := fun vs H Q _ => ∃ (p : Addr) (v : V) (B : Bk) (x : Dl), vs = [.ref p, v] ∧ Rp K H (.ref p) B.d ∧ BOk B ∧ Rp K H v x.d ∧ x.ok B ∧ Q (.int (x.num B)) H
section
variable {P : Program} {w : World} {K : PySem.W.Frag} {mg : Str → Option Value} {base : Heap}
theorem words_of {aN aR aK aW : Addr} (T : TxtW K w mg aN aR aK aW) (n : Nd) (x : Nat) (h : n.has x) : ∃ (c : Str) (aT : Addr) (ws : List Str) (j : Nat), n.vs[0]? = some (.str c) ∧ KDct K w aN c (.ref aT) ∧ KTup K aT ws ∧ ws[j]? = some (wd x) ∧ (∀ m, m < j → ws[m]? ≠ some (wd x)) ∧ n.vs[2 + j]? = some (.int (n.num x)) := by
  cases n with
  | row r t m =>
    match x, h with
    | 0, _ => exact ⟨_, aR, _, 0, rfl, T.dR, T.tR, rfl, fun m hm => absurd hm (Nat.not_lt_zero m), rfl⟩
    | 1, _ => exact ⟨_, aR, _, 1, rfl, T.dR, T.tR, rfl, fun m hm => by
        obtain rfl : m = 0 := by omega
        show some (("tell" : Str)) ≠ some "most"
        decide +kernel, rfl⟩
    | x + 2, h => exact absurd h (by show ¬ (x + 2 < 2); omega)
  | knd r a t m =>
    match x, h with
    | 0, _ => exact ⟨_, aK, _, 1, rfl, T.dK, T.tK, rfl, fun m hm => by
        obtain rfl : m = 0 := by omega
        show some (("after" : Str)) ≠ some "tell"
        decide +kernel, rfl⟩
    | 1, _ => exact ⟨_, aK, _, 2, rfl, T.dK, T.tK, rfl, fun m hm => by
        have : m = 0 ∨ m = 1 := by omega
        rcases this with rfl | rfl
        · show some (("after" : Str)) ≠ some "most"
          decide +kernel
        · show some (("tell" : Str)) ≠ some "most"
          decide +kernel, rfl⟩
    | 2, _ => exact ⟨_, aK, _, 0, rfl, T.dK, T.tK, rfl, fun m hm => absurd hm (Nat.not_lt_zero m), rfl⟩
    | x + 3, h => exact absurd h (by show ¬ (x + 3 < 3); omega)
theorem rp_ints {H : Hp} : ∀ {bs : List Int} {xs : List V}, RpAll K H xs (bs.map D.int) → xs = bs.map V.int
  | [], _, .nil => rfl
  | b :: bs, _, .cons r rs => by
    cases r
    rw [rp_ints rs]
    rfl
theorem int_flat : ∀ bs : List Int, D.flatAll (bs.map D.int) = true
  | [] => rfl
  | b :: bs => by simp only [List.map_cons, D.flatAll, D.flat, int_flat bs, Bool.and_self]
end
def spNumsAt (K : PySem.W.Frag) : Sp := fun vs H Q _ => ∃ (p q : Addr) (B : Bk) (xs : List V) (ds : List Dl), vs = [.ref p, .ref q] ∧ Rp K H (.ref p) B.d ∧ BOk B ∧ H q = some (.tup xs) ∧ RpAll K H xs (ds.map Dl.d) ∧ (∀ x ∈ ds, x.ok B) ∧ ds.length ≤ 1000 ∧
  ∀ (t : Addr) (H' : Hp), Same H H' → H' t = some (.tup ((ds.map (Dl.num B)).map V.int)) → Q (.ref t) H'
section
variable {P : Program} {w : World} {K : PySem.W.Frag} {mg : Str → Option Value} {base : Heap}
end
end Gy

namespace Gy
open PySem L2 PySem.Spec PyProof.Rows
/-! ### the law's own: kinds, places -/
theorem put_new {kvs : List (Key × V)} {k : Key} {v : V} (h : k ∉ kvs.map (·.1)) : putK kvs k v = kvs ++ [(k, v)] := by
  unfold putK
  split
  · rename_i hs
    obtain ⟨kv, hk, hd⟩ := List.any_eq_true.mp hs
    exact absurd (of_decide_eq_true hd ▸ List.mem_map_of_mem hk) h
  · rfl
theorem merge_nodup : ∀ (more acc : List (Key × V)), (acc.map (·.1) ++ more.map (·.1)).Nodup → mergeK acc more = acc ++ more
  | [], acc, _ => by rw [List.append_nil]; rfl
  | kv :: more, acc, h => by
    show mergeK (putK acc kv.1 kv.2) more = _
    have hn : kv.1 ∉ acc.map (·.1) := fun m => by
      rw [List.nodup_append] at h
      exact h.2.2 _ m _ List.mem_cons_self rfl
    rw [put_new hn, merge_nodup more (acc ++ [(kv.1, kv.2)]), List.append_assoc]
    · rfl
    · rw [List.map_append, List.append_assoc]
      exact h
def keyed (ns : List Str) (ks : List V) : List (Key × V) := List.zipWith (fun n v => ((Sum.inr n : Key), v)) ns ks
theorem keyed_keys : ∀ {ns : List Str} {ks : List V}, ns.length = ks.length → (keyed ns ks).map (·.1) = ns.map Sum.inr
  | [], [], _ => rfl
  | n :: ns, k :: ks, h => by
    show Sum.inr n :: (keyed ns ks).map (·.1) = _
    rw [keyed_keys (by simpa using h)]
    rfl
  | [], _ :: _, h => by simp at h
  | _ :: _, [], h => by simp at h
theorem keyed_nodup {ns : List Str} {ks : List V} (h : ns.length = ks.length) (nd : ns.Nodup) : ((keyed ns ks).map (·.1)).Nodup := by
  rw [keyed_keys h]
  exact List.Pairwise.map _ (fun a b hne e => hne (by injection e)) nd
theorem keyed_at {ns : List Str} {ks : List V} {i : Nat} {n : Str} {v : V} (h1 : ns[i]? = some n) (h2 : ks[i]? = some v) : (keyed ns ks)[i]? = some (Sum.inr n, v) := by
  unfold keyed
  rw [List.getElem?_zipWith, h1, h2]
/-- the dict from the kinds' names to the kinds -/
def KD (K : PySem.W.Frag) (H : Hp) (d : Addr) (B : Bk) : Prop := ∃ ks, H d = some (.dK (keyed B.names ks)) ∧ RpAll K H ks (B.kinds.map Kd.d)
theorem KD.same {K : PySem.W.Frag} {H H' : Hp} {d : Addr} {B : Bk} (h : KD K H d B) (s : Same H H') : KD K H' d B := let ⟨ks, h1, h2⟩ := h; ⟨ks, s _ _ h1, RpAll.same s h2⟩
theorem KD.get {K : PySem.W.Frag} {H : Hp} {d : Addr} {B : Bk} (h : KD K H d B) (ok : BOk B) {k : Kd} (hk : k ∈ B.kinds) : ∃ v, DGet H d (.str k.name) (some v) ∧ Rp K H v k.d := by
  obtain ⟨ks, hd, r⟩ := h
  obtain ⟨i, hi⟩ := List.getElem?_of_mem hk
  obtain ⟨v, hv, rv⟩ := at_to r hi
  have hn : B.names[i]? = some k.name := by
    unfold Bk.names
    rw [List.getElem?_map, hi]
    rfl
  have l : B.names.length = ks.length := by
    unfold Bk.names
    rw [r.len, List.length_map, List.length_map]
  have q := val_self (keyed_nodup l ok.names.nd) _ (List.mem_of_getElem? (keyed_at hn hv))
  refine ⟨v, ?_, rv⟩
  rw [← q]
  exact DGet.k (k := Sum.inr k.name) hd
theorem rp_z {K : PySem.W.Frag} {H : Hp} (n : Nat) : Rp K H (.int (0 + (n : Int))) (.int (n : Int)) := by
  rw [Int.zero_add]
  exact .int _
def spKinds (K : PySem.W.Frag) : Sp := fun vs H Q _ => ∃ (p : Addr) (B : Bk), vs = [.ref p] ∧ Rp K H (.ref p) B.d ∧ BOk B ∧
  ∀ (d : Addr) (H' : Hp), Same H H' → H d = none → KD K H' d B → Q (.ref d) H'
section
variable {P : Program} {w : World} {K : PySem.W.Frag} {mg : Str → Option Value} {base : Heap}
end
end Gy

namespace Gy
open PySem L2 PySem.Spec PyProof.Rows
/-! ### the law's own: dials, number_at -/
def spDials (K : PySem.W.Frag) : Sp := fun vs H Q _ => ∃ (p : Addr) (B : Bk), vs = [.ref p] ∧ Rp K H (.ref p) B.d ∧ BOk B ∧
  ∀ (l : Addr) (H' : Hp) (ys : List V) (ds : List Dl), Same H H' → H l = none → H' l = some (.lst ys) → RpAll K H' ys (ds.map Dl.d) → (∀ x ∈ ds, x.ok B) → ds.length ≤ 600 → Q (.ref l) H'
def spNumAt2 (K : PySem.W.Frag) : Sp := fun vs H Q _ => ∃ (p : Addr) (v : V) (B : Bk) (x : Dl), vs = [.ref p, v] ∧ Rp K H (.ref p) B.d ∧ BOk B ∧ Rp K H v x.d ∧ x.ok B ∧ ∀ H', Same H H' → Q (.int (x.num B)) H'
structure TxtS (K : PySem.W.Frag) (mg : Str → Option Value) : Prop where
  isi : mg "isinstance" = none
  str : mg "str" = none
  non : PySem.W.kitOne K (.type "NoneType") (.type "str") = some false
  bl : PySem.W.kitOne K (.type "bool") (.type "str") = some false
  int : PySem.W.kitOne K (.type "int") (.type "str") = some false
  yes : PySem.W.kitOne K (.type "str") (.type "str") = some true
  lst : PySem.W.kitOne K (.type "list") (.type "str") = some false
  tup : PySem.W.kitOne K (.type "tuple") (.type "str") = some false
  dic : PySem.W.kitOne K (.type "dict") (.type "str") = some false
section
variable {P : Program} {w : World} {K : PySem.W.Frag} {mg : Str → Option Value} {base : Heap}
theorem nd_words (n : Nd) : ∃ (c : Str) (m : Nat), n.vs[0]? = some (.str c) ∧ ((c = "row" ∧ m = 2) ∨ (c = "kind" ∧ m = 3)) ∧ ∀ x, x < m → n.has x := by
  cases n with
  | row r t m => exact ⟨_, 2, rfl, .inl ⟨rfl, rfl⟩, fun x h => h⟩
  | knd r a t m => exact ⟨_, 3, rfl, .inr ⟨rfl, rfl⟩, fun x h => h⟩
end
end Gy

namespace Gy
open PySem L2 PySem.Spec PyProof.Rows
/-- try: .. except x as n: suite / except ..: .., where the first clause takes all that the body raises -/
def wFst (K : PySem.W.Frag) (c : Value) (i : Nat) (ts : Addr → Value → Option Addr → TS) (D : Ends) : WX := fun cls d σ H =>
  PySem.W.exmOne K cls c = some true ∧ ∀ a, H a = none → ts a cls d { nx := fun σ' H' => D.nx (σ'.set i none) H', rt := D.rt, bk := fun σ' H' => D.bk (σ'.set i none) H', ct := fun σ' H' => D.ct (σ'.set i none) H' } (σ.set i (some (.ref a))) H
section
variable {X : Cx} {x n : Str} {c : Value} {i : Nat} {body suite : List Stmt} {b₀ : Stmt} {hds : List ExceptHandler} {np pos pos' : Pos} {tb : WX → TS} {ts : Addr → Value → Option Addr → TS}
theorem ps_try_fst (hs : X.stack = X.env :: X.outer) (hf : X.env.frame = some X.env.locals) (hN : X.N.Nodup) (hi : X.N[i]? = some n) (hln : X.env.kindOf n = some .local) (hc : L2.Names X x c)
    (hb : ∀ (W : WX) (pn : List (Addr × Obj)) (xe : Value → Shared → Prop), Takes (X.tr pn xe) W → PassesOwn (model X.prog X.w) X.A X.env xe → PSs (X.tr pn xe) body (tb W))
    (hsu : ∀ (a : Addr) (oe : Obj) (cls : Value) (d : Option Addr) (pn : List (Addr × Obj)), Zc cls d oe → (∃ vs, oe.data = .fields vs) → PSs (X.suite a ((a, oe) :: pn)) (b₀ :: suite) (ts a cls d)) :
    PS X (.Try body (.ExceptHandler (some (.Name x np)) (some n) (b₀ :: suite) pos' :: hds) [] [] pos) (fun D σ H => tb (wFst X.K c i ts D) D σ H) := by
  refine ⟨fun pins s σ H D I h => ?_⟩
  have ok := I.ok
  have frs0 : X.A.frames = some (X.env :: X.outer) := by rw [ok.frames, hs]
  have loc0 : Loc X.env.scope n := .inl hln
  refine wpAny_Try_except ?_
  refine wpAny_mono ((hb (wFst X.K c i ts D) (X.pn ++ pins) (fun e sA => wpAny (model X.prog X.w) X.A (noteFrame e X.env) (fun _ sB => wpAny (model X.prog X.w) X.A (setFlight e none) (fun _ sC =>
    wpAny (model X.prog X.w) X.A (handleBy e X.env (.ExceptHandler (some (.Name x np)) (some n) (b₀ :: suite) pos' :: hds)) (SP X pins D) X.xe sC) X.xe sB) X.xe sA) (fun u s' xx => ?_) PassesOwn.looking).run [] s σ H D (I.toTry _) h) (fun f sA hsp => ?_) (fun e sA he => he)
  · obtain ⟨a, B, sI, pins', σ', H', cls, d, rfl, Jt, nb, up, sky, na, os, ag, hb1, hyes⟩ := xx
    have Jn : Inv X pins σ' H' sI := Jt.ofTry ok
    have skyn : Sky B (X.env :: X.outer) a (Zc cls d) X.env.locals s'.heap := by rw [← hs]; exact sky
    show wpAny (model X.prog X.w) X.A (noteFrame (.ref a) X.env) _ _ _
    refine Sky.land Zc.steady frs0 hf skyn fun hA flA upA => ?_
    have JA : Inv X pins σ' H' { s' with heap := hA } := Jn.landed nb flA.1 (up.trans upA) os ag
    obtain ⟨oA, vA, heA, hzA, hdA⟩ := flA.there
    have notin : a ∉ frs (X.env :: X.outer) := fun hm => by
      obtain ⟨_, o', e', hnf⟩ := (flA.2.2.1).mem hm
      rw [heA] at e'; cases e'
      exact hnf _ hdA
    have neL : a ≠ X.env.locals := fun z => notin (List.mem_filterMap.mpr ⟨X.env, List.mem_cons_self, by rw [hf, z]⟩)
    have neF : a ∉ X.fs := fun hm => by
      obtain ⟨e, he, q⟩ := List.mem_filterMap.mp hm
      exact notin (List.mem_filterMap.mpr ⟨e, List.mem_cons_of_mem _ he, q⟩)
    have SA := JA.suite heA hdA na neL neF
    refine wpAny_handleBy_cons (codeAny_handlers_test ?_) (by intro q; cases q)
    have lookT : PySem.W.Looks (model X.prog X.w) hA (typeOf (.ref a)) cls := fun A Q E s k q => wpAny_typeOf_ref (k _ _ heA) (by rw [hzA.1]; exact q)
    have lookM := PySem.W.exm_one (M := model X.prog X.w) (JA.kIn) lookT hb1
    have test : ∀ {Q : Value → Shared → Prop} {E : Value → Shared → Prop}, Q c { s' with heap := hA } → wpAny (model X.prog X.w) (X.A.mark (some (.ref a))) (eval (.Name x np) X.env) Q E { s' with heap := hA } := fun {Q E} q => by
      obtain ⟨hg, hdbg, hm | ⟨hm, hv, hnn⟩⟩ := hc
      · exact ld_glob (X := X.suite a ((a, oA) :: (X.pn ++ pins))) SA hg hm q hdbg
      · exact ld_blt (X := X.suite a ((a, oA) :: (X.pn ++ pins))) SA hg hm hv q hnn hdbg
    refine test (lookM.here ?_)
    refine codeAny_handlers_suite_as ?_
    refine HandSPX.lands_againZ flA fun hB flB upB => ?_
    have JB : Inv X pins σ' H' { s' with heap := hB } := Jn.landed nb flB.1 ((up.trans upA).trans upB) os ag
    obtain ⟨oB, vB, heB, hzB, hdB⟩ := flB.there
    have SB := JB.suite heB hdB na neL neF
    refine store_ok (X := X.suite a ((a, oB) :: (X.pn ++ pins))) (v := .ref a) SB hN hi loc0 rfl (fun sD SD => ?_) (.inr hln)
    refine wpAny_mono ((hsu a oB cls d (X.pn ++ pins) hzB ⟨_, hdB⟩).run [] sD _ H' _ SD (hyes a na)) (fun f sE hsp => ?_) (fun _ _ z => False.elim z)
    have fin : ∀ {σE : L2.St} {HE : Hp} {Q : Shared → Prop}, Inv (X.suite a ((a, oB) :: (X.pn ++ pins))) [] σE HE sE → (∀ sF, Inv X pins (σE.set i none) HE sF → Q sF) →
        wpAny (model X.prog X.w) X.A (do bindName X.env n .none; unbindBehindTheSuite X.env n pos') (fun _ sF => Q sF) X.xe sE := fun {σE HE Q} SE hq => gone_ok (SE.unsuite ok) hN hi hln hq
    cases f with
    | next =>
      obtain ⟨σE, HE, SE, qE⟩ := hsp
      exact fin SE fun sF JF => ⟨_, _, JF, qE⟩
    | brk =>
      obtain ⟨σE, HE, SE, qE⟩ := hsp
      exact fin SE fun sF JF => ⟨_, _, JF, qE⟩
    | cont =>
      obtain ⟨σE, HE, SE, qE⟩ := hsp
      exact fin SE fun sF JF => ⟨_, _, JF, qE⟩
    | ret u =>
      obtain ⟨vE, σE, HE, SE, rE, qE⟩ := hsp
      exact fin SE fun sF JF => ⟨_, _, _, JF, rE, qE⟩
  · cases f with
    | next =>
      obtain ⟨σN, HN, JN, q⟩ := hsp
      exact wpAny_execs_nil ⟨σN, HN, JN.ofTry ok, q⟩
    | brk =>
      obtain ⟨σN, HN, JN, q⟩ := hsp
      exact ⟨σN, HN, JN.ofTry ok, q⟩
    | cont =>
      obtain ⟨σN, HN, JN, q⟩ := hsp
      exact ⟨σN, HN, JN.ofTry ok, q⟩
    | ret u =>
      obtain ⟨vN, σN, HN, JN, r, q⟩ := hsp
      exact ⟨vN, σN, HN, JN.ofTry ok, r, q⟩
end
/-! ### heard_kind -/
def spHeard (K : PySem.W.Frag) : Sp := fun vs H Q _ => ∃ (p : Addr) (v : V) (B : Bk), vs = [.ref p, v] ∧ Rp K H (.ref p) B.d ∧ BOk B ∧ (∃ d, Rp K H v d ∧ d.top = true) ∧
  (∀ k ∈ B.kinds, v = .str k.name → ∀ t a H', Same H H' → H' t = some (.tup [.str "told", .ref a]) → Rp K H' (.ref a) k.d → Q (.ref t) H') ∧
  ((∀ k ∈ B.kinds, v ≠ .str k.name) → ∀ t H', Same H H' → H' t = some (.tup [.str "no kind", v]) → Q (.ref t) H')
section
variable {P : Program} {w : World} {K : PySem.W.Frag} {mg : Str → Option Value} {base : Heap}
end
end Gy

namespace Gy
open PySem L2 PySem.Spec PyProof.Rows
/-! ### sorted names are one list -/
theorem rising_pw : ∀ {l : List Str} {p : Str}, risingS p l = true → (p :: l).Pairwise fun a b => a.cps.toList ≤ b.cps.toList
  | [], p, _ => List.pairwise_singleton _ _
  | x :: l, p, h => by
    simp only [risingS, Bool.and_eq_true, Bool.not_eq_true'] at h
    have ih := rising_pw h.2
    have hpx : p.cps.toList ≤ x.cps.toList := by
      have q := h.1
      rw [ltCps_eq] at q
      exact of_decide_eq_false q
    rw [List.pairwise_cons]
    refine ⟨fun y hy => ?_, ih⟩
    rcases List.mem_cons.mp hy with e | hy
    · rw [e]; exact hpx
    · exact List.le_trans hpx ((List.pairwise_cons.mp ih).1 y hy)
theorem sorted_pw : ∀ {l : List Str}, sortedS l = true → l.Pairwise fun a b => a.cps.toList ≤ b.cps.toList
  | [], _ => .nil
  | _ :: _, h => rising_pw h
theorem str_ext {x y : Str} (h : x.cps.toList = y.cps.toList) : x = y := by
  obtain ⟨⟨x⟩⟩ := x
  obtain ⟨⟨y⟩⟩ := y
  have e : x = y := h
  rw [e]
theorem sorted_one {l m : List Str} (h : sortedS l = true) (h' : sortedS m = true) (p : l.Perm m) : l = m :=
  p.eq_of_pairwise (le := fun a b => a.cps.toList ≤ b.cps.toList) (fun a b _ _ h1 h2 => str_ext (List.le_antisymm h1 h2)) (sorted_pw h) (sorted_pw h')
/-! ### a promise of alike that fits unlike things of equal content -/
def AlikeX (K : PySem.W.Frag) (H : Hp) (x y : V) : Prop := ∃ d, Rp K H x d ∧ Rp K H y d ∧ d.ok = true ∧ d.shown.length ≤ sizeLine ∧ d.depth ≤ 40 ∧ EqX K H x y
def spAlikeX (K : PySem.W.Frag) : Sp := fun vs H Q _ => ∃ x y, vs = [x, y] ∧ AlikeX K H x y ∧ Q (.bl true) H
theorem AlikeX.of {K : PySem.W.Frag} {H : Hp} {x y : V} {d : D} {n m : Nat} (r : Rp K H x d) (r' : Rp K H y d) (f : d.Fine n m) (hn : n ≤ 100000) (hm : m ≤ 40) : AlikeX K H x y := by
  obtain ⟨h1, h2, h3⟩ := f.show hn hm
  obtain ⟨h4, h5, h6⟩ := f.shaped hm
  exact ⟨d, r, r', h1, h2, h3, .inl ⟨d, r, r', h4, h5, h6⟩⟩
section
variable {P : Program} {w : World} {K : PySem.W.Frag} {mg : Str → Option Value} {base : Heap}
theorem ok_alikeX {f : Addr} {fd : FuncData} (F : Fun K "_law_alike" "_law_alike" sAlike f fd) (zR : mg "repr" = none) : FnG NoGuard P w K mg base 1 f fd ["_law_found", "_law_due"] (spAlikeX K) := by
  refine fn_ofG (c := false) F scAlike (fun A _ z => Bool.noConfusion z) (fun vs H Q E h => ?_) (fun cdv A outer s H vs Q E hG hr h => ?_)
  · obtain ⟨x, y, rfl, _⟩ := h
    rfl
  · obtain ⟨x, y, rfl, ⟨d, rx, ry, ho, hz, hd, hxy⟩, q⟩ := h
    have hg : (A.deeper (envOfC "_law_alike" (defScope sAlike) s.heap.objs.size f cdv)).guards = some [] := by
      have e : A.guards = some [] := hG
      show (A.deeper _).guards = _
      simpa [Around.deeper] using e
    have hu : (A.deeper (envOfC "_law_alike" (defScope sAlike) s.heap.objs.size f cdv)).units + 64 < cLine := by
      have := hr.un
      omega
    refine ⟨_, pss_one (ps_ret (pe_and (pe_cmpR (op_eqX hu) (pv 0) (pv 1) (nomark _)) (pe_one (pe_cmpR op_eq (pe_callB (call_reprD hg hu) (by rfl) zR (by decide +kernel) (pa_cons (pv 0) pa_nil)) (pe_callB (call_reprD hg hu) (by rfl) zR (by decide +kernel) (pa_cons (pv 1) pa_nil)) (nomark _))))), ?_⟩
    refine ⟨_, rfl, _, rfl, ⟨hxy, _, rfl, iteT ⟨_, rfl, x, d, rfl, rx, ho, hz, hd, _, rfl, y, d, rfl, ry, ho, hz, hd, rfl, ?_⟩⟩⟩
    show Q (.bl (decide (V.str d.shown = V.str d.shown))) H
    rw [decide_eq_true rfl]
    exact q
end
/-! ### dials in another order; their numbers -/
theorem re_map {α : Type} {f : α → D} {ok : α → Prop} {K : PySem.W.Frag} {H : Hp} : ∀ {ys : List V}, (∀ y ∈ ys, ∃ x, Rp K H y (f x) ∧ ok x) → ∃ ds : List α, RpAll K H ys (ds.map f) ∧ (∀ x ∈ ds, ok x) ∧ ds.length = ys.length
  | [], _ => ⟨[], .nil, (fun x m => absurd m List.not_mem_nil), rfl⟩
  | y :: ys, h => by
    obtain ⟨x, rx, ox⟩ := h y List.mem_cons_self
    obtain ⟨ds, r, o, l⟩ := re_map fun z m => h z (List.mem_cons_of_mem _ m)
    refine ⟨x :: ds, .cons rx r, fun z m => ?_, by rw [List.length_cons, List.length_cons, l]⟩
    rcases List.mem_cons.mp m with e | m
    · rw [e]; exact ox
    · exact o z m
theorem nd_num {rows names : List Str} {n : Nd} {x : Nat} (h : n.ok rows names) : 0 ≤ n.num x ∧ n.num x < 1000 := by
  cases n with
  | row r t m =>
    obtain ⟨h1, h2, h3⟩ := h
    match x with
    | 0 => exact ⟨h2.1, by show t < 1000; omega⟩
    | x + 1 => exact ⟨h3.1, by show m < 1000; omega⟩
  | knd r a t m =>
    obtain ⟨h1, h2, h3, h4⟩ := h
    match x with
    | 0 => exact ⟨h3.1, by show t < 1000; omega⟩
    | 1 => exact ⟨h4.1, by show m < 1000; omega⟩
    | x + 2 => exact ⟨by show 0 ≤ a; omega, by show a < 1000; omega⟩
theorem dl_num {B : Bk} (ok : BOk B) {x : Dl} (h : x.ok B) : 0 ≤ x.num B ∧ x.num B < 1000 := by
  cases x with
  | kd n b =>
    obtain ⟨k, hk, rfl⟩ := ok.kind h
    have e : (Dl.kd k.name b).num B = if b then k.keep else k.bar := by
      show (match B.kindOf k.name with
        | some k => if b = true then k.keep else k.bar
        | none => 0) = _
      rw [kindOf_at ok hk]
    rw [e]
    have h1 := (ok.kinds k hk).keep
    have h2 := (ok.kinds k hk).bar
    cases b with
    | true => exact ⟨by show 0 ≤ k.keep; omega, by show k.keep < 1000; omega⟩
    | false => exact ⟨h2.1, by show k.bar < 1000; omega⟩
  | nd pl x =>
    obtain ⟨k, gr, n, hk, hn, hg, hj, hx⟩ := h
    have e : (Dl.nd pl x).num B = n.num x := by
      show (match B.kindOf pl.n with
        | some k => ((k.gs.getD pl.g []).getD pl.j (.row "" 0 0)).num x
        | none => 0) = _
      rw [← hn, kindOf_at ok hk]
      show ((k.gs.getD pl.g []).getD pl.j (.row "" 0 0)).num x = _
      rw [getD_of hg, getD_of hj]
    rw [e]
    exact nd_num (((ok.kinds k hk).gs gr (List.mem_of_getElem? hg)).ok n (List.mem_of_getElem? hj))
theorem fine_ints {B : Bk} (ok : BOk B) {ds : List Dl} (h : ∀ x ∈ ds, x.ok B) : FineL ((ds.map (Dl.num B)).map D.int) (1 * ds.length) 0 := by
  have q := FineL.of (ds := (ds.map (Dl.num B)).map D.int) (n := 1) (m := 0) fun d hd => by
    obtain ⟨z, hz, rfl⟩ := List.mem_map.mp hd
    obtain ⟨x, hx, rfl⟩ := List.mem_map.mp hz
    have := dl_num ok (h x hx)
    exact fine_int this.1 this.2
  rw [List.length_map, List.length_map] at q
  exact q
/-! ### the needs at the places -/
def needOf (B : Bk) (p : Pl) : Nd := match B.kindOf p.n with
  | some k => (k.gs.getD p.g []).getD p.j (.row "" 0 0)
  | none => .row "" 0 0
theorem needOf_at {B : Bk} (ok : BOk B) {p : Pl} {k : Kd} {gr : List Nd} {n : Nd} (hk : k ∈ B.kinds) (hn : k.name = p.n) (hg : k.gs[p.g]? = some gr) (hj : gr[p.j]? = some n) : needOf B p = n := by
  unfold needOf
  rw [← hn, kindOf_at ok hk]
  show (k.gs.getD p.g []).getD p.j (.row "" 0 0) = _
  rw [getD_of hg, getD_of hj]
theorem fine_needs {B : Bk} (ok : BOk B) : (D.lst ((B.places.map (needOf B)).map Nd.d)).Fine 2000 4 := by
  have q := FineL.of (ds := (B.places.map (needOf B)).map Nd.d) (n := 6) (m := 1) fun d hd => by
    obtain ⟨z, hz, rfl⟩ := List.mem_map.mp hd
    obtain ⟨p, hp, rfl⟩ := List.mem_map.mp hz
    obtain ⟨k, gr, n, hk, hn, hg, hj⟩ := places_at p hp
    rw [needOf_at ok hk hn hg hj]
    exact Nd.fine (((ok.kinds k hk).gs gr (List.mem_of_getElem? hg)).ok n (List.mem_of_getElem? hj)) ok.rows.mem ok.names.mem
  rw [List.length_map, List.length_map] at q
  have := ok.places_len
  exact q.lst.mono (by omega) (by omega)
theorem fine_asked {B : Bk} (ok : BOk B) : (D.lst [.lst (B.names.map D.str), .lst (B.places.map Pl.d), .lst (B.dead.map dgD)]).Fine 2000 6 := by
  have small : ∀ {n : Nat}, n < 1000 → (D.int (n : Int)).Fine 1 0 := fun h => fine_int (by omega) (by omega)
  have q1 := FineL.of (ds := B.names.map D.str) (n := 1) (m := 0) fun d hd => by
    obtain ⟨x, hx, rfl⟩ := List.mem_map.mp hd
    exact fine_name (ok.names.mem x hx)
  have gl : ∀ {k : Kd} {i : Nat}, k ∈ B.kinds → i < k.gs.length → i < 1000 := fun hk hi => by
    have := (ok.kinds _ hk).len
    omega
  have q2 := FineL.of (ds := B.places.map Pl.d) (n := 4) (m := 1) fun d hd => by
    obtain ⟨p, hp, rfl⟩ := List.mem_map.mp hd
    obtain ⟨k, gr, n, hk, hn, hg, hj⟩ := places_at p hp
    have l1 := (List.getElem?_eq_some_iff.mp hg).1
    have l2 := (List.getElem?_eq_some_iff.mp hj).1
    have l3 := ((ok.kinds k hk).gs gr (List.mem_of_getElem? hg)).len
    rw [show p.d = .tup [.str p.n, .int p.g, .int p.j] from rfl]
    exact (FineL.tup (.cons (fine_name (by rw [← hn]; exact ok.name_in hk)) (.cons (small (gl hk l1)) (.cons (small (by omega)) .nil)))).mono (by omega) (by omega)
  have q3 := FineL.of (ds := B.dead.map dgD) (n := 3) (m := 1) fun d hd => by
    obtain ⟨p, hp, rfl⟩ := List.mem_map.mp hd
    obtain ⟨k, hk, hn, hl⟩ := dead_in p hp
    rw [show dgD p = .tup [.str p.1, .int p.2] from rfl]
    exact (FineL.tup (.cons (fine_name (by rw [← hn]; exact ok.name_in hk)) (.cons (small (gl hk hl)) .nil))).mono (by omega) (by omega)
  rw [List.length_map] at q1 q2 q3
  have := ok.names.len
  have := ok.places_len
  have := ok.dead_len
  exact (FineL.lst (.cons q1.lst (.cons q2.lst (.cons q3.lst .nil)))).mono (by omega) (by omega)
end Gy

namespace Gy
open PySem L2 PySem.Spec PyProof.Rows
/-! ### is_book_told -/
theorem g3_mono {K : PySem.W.Frag} {i j k : Nat} : ∀ x σ' H' (A B : L2.St → Hp → Prop), (∀ σ2 H2, A σ2 H2 → B σ2 H2) → gTup K 3 (gCons (gName i) (gCons (gName j) (gCons (gName k) gNil))) x σ' H' A → gTup K 3 (gCons (gName i) (gCons (gName j) (gCons (gName k) gNil))) x σ' H' B := by
  rintro x σ' H' A B h ⟨a, xs, e1, e2, e3, y, r, e4, y2, r2, e5, y3, r3, e6, e7, q⟩
  exact ⟨a, xs, e1, e2, e3, y, r, e4, y2, r2, e5, y3, r3, e6, e7, h _ _ q⟩
theorem next_open {D : Ends} {σ : L2.St} {H : Hp} (h : D.nx σ H) : tNext D σ H := h
theorem ExtS {b : Addr} {H H' H2 : Hp} (e : Ext b H H') (s : Same H' H2) : Ext b H H2 := e.trans' (ext_same s)
theorem KD.ext {K : PySem.W.Frag} {b c : Addr} {H H' : Hp} {d : Addr} {B : Bk} (h : KD K H d B) (Bg : BagC c H b) (e : Ext b H H') : KD K H' d B := by
  obtain ⟨ks, h1, h2⟩ := h
  obtain ⟨l, hl⟩ := Bg.lst
  exact ⟨ks, e d _ (fun z => by rw [z, hl] at h1; cases h1) h1, h2.tups (Bg.tups e) (kds_flat _)⟩
theorem few_all {d : D} (h : d.few = true) : d.ok = true ∧ d.top = true ∧ d.shown.length ≤ 20000 ∧ d.depth ≤ 10 := by
  unfold D.few at h
  simp only [Bool.and_eq_true, decide_eq_true_eq] at h
  exact ⟨h.1.1, h.1.2, h.2.1, h.2.2⟩
theorem few_name {x : Str} (h : x ∈ menu) : (D.str x).few = true := by
  have q : menu.all (fun x => (D.str x).few) = true := by decide +kernel
  exact List.all_eq_true.mp q x h
theorem isS_of {K : PySem.W.Frag} {mg : Str → Option Value} {H : Hp} {v : V} {d : D} (T : TxtS K mg) (r : Rp K H v d) (h : d.top = true) : ∃ t b, TyX K H v t ∧ PySem.W.kitOne K t (.type "str") = some b ∧ ((b = true ∧ ∃ z, v = .str z) ∨ (b = false ∧ ∀ z, v ≠ .str z)) := by
  cases r with
  | non => exact ⟨_, _, .base .non, T.non, .inr ⟨rfl, fun z e => by cases e⟩⟩
  | bl b => exact ⟨_, _, .base (.bl b), T.bl, .inr ⟨rfl, fun z e => by cases e⟩⟩
  | int i => exact ⟨_, _, .base (.int i), T.int, .inr ⟨rfl, fun z e => by cases e⟩⟩
  | str x => exact ⟨_, _, .base (.str x), T.yes, .inl ⟨rfl, x, rfl⟩⟩
  | lst e _ => exact ⟨_, _, .base (.lst e), T.lst, .inr ⟨rfl, fun z e => by cases e⟩⟩
  | tup e _ => exact ⟨_, _, .base (.tup e), T.tup, .inr ⟨rfl, fun z e => by cases e⟩⟩
  | dic e _ _ => exact ⟨_, _, .base (.dK e), T.dic, .inr ⟨rfl, fun z e => by cases e⟩⟩
  | exc _ _ _ _ _ _ => cases h
/-- whether a name is a key -/
theorem KD.has {K : PySem.W.Frag} {H : Hp} {d : Addr} {B : Bk} (h : KD K H d B) (ok : BOk B) (z : Str) : ∃ o, DGet H d (.str z) o ∧ ((o.isSome = true ∧ ∃ k ∈ B.kinds, z = k.name) ∨ (o.isSome = false ∧ ∀ k ∈ B.kinds, z ≠ k.name)) := by
  by_cases hz : z ∈ B.names
  · obtain ⟨k, hk, rfl⟩ := ok.kind hz
    obtain ⟨v, hv, _⟩ := h.get ok hk
    exact ⟨_, hv, .inl ⟨rfl, k, hk, rfl⟩⟩
  · obtain ⟨ks, hd, r⟩ := h
    have l : B.names.length = ks.length := by
      unfold Bk.names
      rw [r.len, List.length_map, List.length_map]
    have q : valV (keyed B.names ks) (Sum.inr z) = none := by
      unfold valV
      rw [Option.map_eq_none_iff, List.find?_eq_none]
      intro kv hm
      have e := List.mem_map_of_mem (f := fun x : Key × V => x.1) hm
      rw [keyed_keys l] at e
      obtain ⟨n, hn, en⟩ := List.mem_map.mp e
      rw [← en]
      simp only [decide_eq_true_eq]
      intro y
      injection y with y
      rw [y] at hn
      exact hz hn
    refine ⟨none, ?_, .inr ⟨rfl, fun k hk e => hz (by rw [e]; exact List.mem_map_of_mem hk)⟩⟩
    rw [← q]
    exact DGet.k (k := Sum.inr z) hd
theorem nokind_len : (reprText "no kind").length ≤ 12 := by decide +kernel
theorem alike_nokind {K : PySem.W.Frag} {H : Hp} {t u : Addr} {x : V} {d : D} (ht : H t = some (.tup [.str "no kind", x])) (hu : H u = some (.tup [.str "no kind", x])) (r : Rp K H x d) (f : d.few = true) : AlikeX K H (.ref t) (.ref u) := by
  obtain ⟨f1, f2, f3, f4⟩ := few_all f
  refine ⟨.tup [.str "no kind", d], .tup ht (.cons (.str _) (.cons r .nil)), .tup hu (.cons (.str _) (.cons r .nil)), by simp only [D.ok, D.okAll, f1, Bool.and_self], ?_, by simp only [D.depth, D.depthAll]; omega, .inr ⟨t, u, _, _, rfl, rfl, SqT.of ht, SqT.of hu, .cons (.inl ⟨rfl, rfl⟩) (.cons r.sameV .nil)⟩⟩
  have q := tupleText_len_le (D.shownAll [.str "no kind", d])
  simp only [D.shownAll, List.map_cons, List.map_nil, List.sum_cons, List.sum_nil, List.length_cons, List.length_nil, D.shown] at q ⊢
  have := nokind_len
  rw [sizeLine_eq]
  omega
def spTold (K : PySem.W.Frag) : Sp := fun vs H Q _ => ∃ (b c p : Addr) (B : Bk), vs = [.ref b, .ref p] ∧ BagC c H b ∧ Rp K H (.ref p) B.d ∧ BOk B ∧ ∀ H', Ext b H H' → BagC c H' b → Q (.bl true) H'
section
variable {P : Program} {w : World} {K : PySem.W.Frag} {mg : Str → Option Value} {base : Heap}
end
end Gy

namespace Gy
open PySem L2 PySem.Spec PyProof.Rows
/-! ### least sets of kinds -/
def MonoR (right : List Str → List Nd → Bool) : Prop := ∀ (l m : List Str) (g : List Nd), (∀ x ∈ l, x ∈ m) → right l g = true → right m g = true
inductive LS (B : Bk) (right : List Str → List Nd → Bool) : Str → Prop
  | mk (k : Kd) (l : List Str) : k ∈ B.kinds → (∀ x ∈ l, LS B right x) → k.gs.any (right l) = true → LS B right k.name
def ClosedR (B : Bk) (right : List Str → List Nd → Bool) (l : List Str) : Prop := ∀ k ∈ B.kinds, k.gs.any (right l) = true → k.name ∈ l
theorem any_mono {right : List Str → List Nd → Bool} (m : MonoR right) {l l' : List Str} (h : ∀ x ∈ l, x ∈ l') {gs : List (List Nd)} (a : gs.any (right l) = true) : gs.any (right l') = true := by
  obtain ⟨g, hg, hr⟩ := List.any_eq_true.mp a
  exact List.any_eq_true.mpr ⟨g, hg, m l l' g h hr⟩
theorem LS.isin {B : Bk} {right : List Str → List Nd → Bool} {x : Str} (h : LS B right x) : x ∈ B.names := by
  cases h with
  | mk k l hk _ _ => exact List.mem_map_of_mem hk
theorem closed_has {B : Bk} {right : List Str → List Nd → Bool} (m : MonoR right) {l : List Str} (c : ClosedR B right l) {x : Str} (h : LS B right x) : x ∈ l := by
  induction h with
  | mk k l' hk _ a ih => exact c k hk (any_mono m ih a)
noncomputable def lsL (B : Bk) (right : List Str → List Nd → Bool) : List Str := B.names.filter fun x => @decide (LS B right x) (Classical.propDecidable _)
theorem mem_lsL {B : Bk} {right : List Str → List Nd → Bool} {x : Str} : x ∈ lsL B right ↔ LS B right x := by
  unfold lsL
  rw [List.mem_filter]
  exact ⟨fun h => @of_decide_eq_true _ (Classical.propDecidable _) h.2, fun h => ⟨h.isin, @decide_eq_true _ (Classical.propDecidable _) h⟩⟩
theorem lsL_nodup {B : Bk} {right : List Str → List Nd → Bool} (ok : BOk B) : (lsL B right).Nodup := ok.names.nd.sublist List.filter_sublist
theorem pw_sorted {l : List Str} (h : l.Pairwise fun a b => a.cps.toList ≤ b.cps.toList) : sortedS l = true := sortedS_of_pairwise l (h.imp fun {a b} q => by
  rw [ltCps_eq]
  exact decide_eq_false q)
theorem lsL_sorted {B : Bk} {right : List Str → List Nd → Bool} (ok : BOk B) : sortedS (lsL B right) = true := pw_sorted ((sorted_pw ok.names.asc).sublist List.filter_sublist)
theorem lsL_len {B : Bk} {right : List Str → List Nd → Bool} (ok : BOk B) : (lsL B right).length ≤ 15 := Nat.le_trans (List.filter_sublist).length_le ok.names.len
theorem perm_of_iff {α : Type} : ∀ {l m : List α}, l.Nodup → m.Nodup → (∀ x, x ∈ l ↔ x ∈ m) → l.Perm m
  | [], m, _, _, h => by
    have : m = [] := List.eq_nil_iff_forall_not_mem.mpr fun x hx => by have := (h x).mpr hx; cases this
    rw [this]
  | a :: l, m, nl, nm, h => by
    obtain ⟨u, v, rfl⟩ := List.append_of_mem ((h a).mp List.mem_cons_self)
    have p : (u ++ a :: v).Perm (a :: (u ++ v)) := List.perm_middle
    refine (List.Perm.cons a (perm_of_iff (List.nodup_cons.mp nl).2 (List.nodup_cons.mp (p.nodup_iff.mp nm)).2 fun x => ?_)).trans p.symm
    have na := (List.nodup_cons.mp nl).1
    have nb := (List.nodup_cons.mp (p.nodup_iff.mp nm)).1
    constructor
    · intro hx
      have q := p.mem_iff.mp ((h x).mp (List.mem_cons_of_mem _ hx))
      rcases List.mem_cons.mp q with e | q
      · rw [e] at hx
        exact absurd hx na
      · exact q
    · intro hx
      have q := (h x).mpr (p.mem_iff.mpr (List.mem_cons_of_mem _ hx))
      rcases List.mem_cons.mp q with e | q
      · rw [e] at hx
        exact absurd hx nb
      · exact q
theorem is_lsL {B : Bk} {right : List Str → List Nd → Bool} (ok : BOk B) (m : MonoR right) {l : List Str} (nd : l.Nodup) (s : ∀ x ∈ l, LS B right x) (c : ClosedR B right l) : l.Perm (lsL B right) :=
  perm_of_iff nd (lsL_nodup ok) fun x => ⟨fun h => mem_lsL.mpr (s x h), fun h => closed_has m c (mem_lsL.mp h)⟩
/-! ### when a ground is right -/
def metN (B : Bk) (l : List Str) : Nd → Bool
  | .row _ _ _ => true
  | .knd n a _ _ => decide (n ∈ l) && decide (a < B.keepOf n)
def metG (B : Bk) (l : List Str) (g : List Nd) : Bool := g.all (metN B l)
def onS (st : List Str) : Nd → Bool
  | .row r _ _ => decide (r ∈ st)
  | .knd _ _ _ _ => false
def rClean (B : Bk) (st l : List Str) (g : List Nd) : Bool := metG B l g && !(g.any (onS st))
def forcedN (st cl : List Str) : Nd → Bool
  | .row r _ _ => decide (r ∈ st)
  | .knd n _ _ _ => !(decide (n ∈ cl))
def places (f : Nd → Bool) (g : List Nd) : List Nat := (List.range g.length).filter fun i => f (g.getD i (.row "" 0 0))
def oldN (l : List Str) : Nd → Bool
  | .row _ _ _ => false
  | .knd n _ _ _ => decide (n ∈ l)
def rAble (B : Bk) (be cl st l : List Str) (g : List Nd) : Bool := metG B be g && (decide (places (forcedN st cl) g ≠ []) || g.any (oldN l))
theorem metN_mono {B : Bk} {l m : List Str} (h : ∀ x ∈ l, x ∈ m) {n : Nd} (q : metN B l n = true) : metN B m n = true := by
  cases n with
  | row r t x => rfl
  | knd n a t x =>
    simp only [metN, Bool.and_eq_true, decide_eq_true_eq] at q ⊢
    exact ⟨h n q.1, q.2⟩
theorem metG_mono (B : Bk) : MonoR (metG B) := fun l m g h q => by
  unfold metG at q ⊢
  rw [List.all_eq_true] at q ⊢
  exact fun x hx => metN_mono h (q x hx)
theorem clean_mono (B : Bk) (st : List Str) : MonoR (rClean B st) := fun l m g h q => by
  unfold rClean at q ⊢
  rw [Bool.and_eq_true] at q ⊢
  exact ⟨metG_mono B l m g h q.1, q.2⟩
theorem able_mono (B : Bk) (be cl st : List Str) : MonoR (rAble B be cl st) := fun l m g h q => by
  unfold rAble at q ⊢
  simp only [Bool.and_eq_true, Bool.or_eq_true] at q ⊢
  refine ⟨q.1, q.2.imp id fun z => ?_⟩
  obtain ⟨x, hx, hq⟩ := List.any_eq_true.mp z
  refine List.any_eq_true.mpr ⟨x, hx, ?_⟩
  cases x with
  | row r t y => cases hq
  | knd n a t y =>
    simp only [oldN, decide_eq_true_eq] at hq ⊢
    exact h n hq
def SameL (l m : List Str) : Prop := ∀ x, x ∈ l ↔ x ∈ m
theorem SameL.perm {l m : List Str} (h : l.Perm m) : SameL l m := fun x => h.mem_iff
theorem SameL.dec {l m : List Str} (h : SameL l m) (x : Str) : decide (x ∈ l) = decide (x ∈ m) := decide_eq_decide.mpr (h x)
theorem metG_same {B : Bk} {l m : List Str} (h : SameL l m) : metG B l = metG B m := by
  funext g
  unfold metG
  congr 1
  funext n
  cases n with
  | row r t x => rfl
  | knd n a t x => simp only [metN, h.dec]
theorem forcedN_same {st l m : List Str} (h : SameL l m) : forcedN st l = forcedN st m := by
  funext n
  cases n with
  | row r t x => rfl
  | knd n a t x => simp only [forcedN, h.dec]
theorem oldN_same {l m : List Str} (h : SameL l m) : oldN l = oldN m := by
  funext n
  cases n with
  | row r t x => rfl
  | knd n a t x => simp only [oldN, h.dec]
/-! ### bearing, clean, able kinds -/
noncomputable def Bk.bear (B : Bk) : List Str := lsL B (metG B)
noncomputable def Bk.clean (B : Bk) (st : List Str) : List Str := lsL B (rClean B st)
noncomputable def Bk.able (B : Bk) (st : List Str) : List Str := lsL B (rAble B B.bear (B.clean st) st)
/-- the law's word for clean: live, its kinds found, no struck row -/
def allIn (l : List Str) : Nd → Bool
  | .row _ _ _ => true
  | .knd n _ _ _ => decide (n ∈ l)
def rClean2 (B : Bk) (be st l : List Str) (g : List Nd) : Bool := metG B be g && (g.all (allIn l) && !(g.any (onS st)))
theorem clean2_mono (B : Bk) (be st : List Str) : MonoR (rClean2 B be st) := fun l m g h q => by
  unfold rClean2 at q ⊢
  simp only [Bool.and_eq_true] at q ⊢
  refine ⟨q.1, List.all_eq_true.mpr fun x hx => ?_, q.2.2⟩
  have z := List.all_eq_true.mp q.2.1 x hx
  cases x with
  | row r t y => rfl
  | knd n a t y =>
    simp only [allIn, decide_eq_true_eq] at z ⊢
    exact h n z
theorem metG_and {B : Bk} {be l : List Str} {g : List Nd} (h1 : metG B be g = true) (h2 : g.all (allIn l) = true) : metG B l g = true := by
  unfold metG at h1 ⊢
  rw [List.all_eq_true] at h1 h2 ⊢
  intro x hx
  have q1 := h1 x hx
  have q2 := h2 x hx
  cases x with
  | row r t y => rfl
  | knd n a t y =>
    simp only [metN, allIn, Bool.and_eq_true, decide_eq_true_eq] at q1 q2 ⊢
    exact ⟨q2, q1.2⟩
theorem metG_in {B : Bk} {l : List Str} {g : List Nd} (h1 : metG B l g = true) : g.all (allIn l) = true := by
  unfold metG at h1
  rw [List.all_eq_true] at h1 ⊢
  intro x hx
  have q1 := h1 x hx
  cases x with
  | row r t y => rfl
  | knd n a t y =>
    simp only [metN, allIn, Bool.and_eq_true, decide_eq_true_eq] at q1 ⊢
    exact q1.1
theorem clean_bear {B : Bk} {st : List Str} {x : Str} (h : LS B (rClean B st) x) : LS B (metG B) x := by
  induction h with
  | mk k l hk _ a ih =>
    refine .mk k l hk ih ?_
    obtain ⟨g, hg, hr⟩ := List.any_eq_true.mp a
    refine List.any_eq_true.mpr ⟨g, hg, ?_⟩
    unfold rClean at hr
    rw [Bool.and_eq_true] at hr
    exact hr.1
theorem clean_iff {B : Bk} {st : List Str} {x : Str} : LS B (rClean B st) x ↔ LS B (rClean2 B B.bear st) x := by
  constructor
  · intro h
    induction h with
    | mk k l hk hl a ih =>
      refine .mk k l hk ih ?_
      obtain ⟨g, hg, hr⟩ := List.any_eq_true.mp a
      refine List.any_eq_true.mpr ⟨g, hg, ?_⟩
      unfold rClean at hr
      unfold rClean2
      simp only [Bool.and_eq_true] at hr ⊢
      exact ⟨metG_mono B l B.bear g (fun x hx => mem_lsL.mpr (clean_bear (hl x hx))) hr.1, metG_in hr.1, hr.2⟩
  · intro h
    induction h with
    | mk k l hk hl a ih =>
      refine .mk k l hk ih ?_
      obtain ⟨g, hg, hr⟩ := List.any_eq_true.mp a
      refine List.any_eq_true.mpr ⟨g, hg, ?_⟩
      unfold rClean2 at hr
      unfold rClean
      simp only [Bool.and_eq_true] at hr ⊢
      exact ⟨metG_and hr.1 hr.2.1, hr.2.2⟩
theorem clean_eq (B : Bk) (st : List Str) : lsL B (rClean2 B B.bear st) = B.clean st := by
  unfold Bk.clean lsL
  refine List.filter_congr fun x _ => ?_
  exact congrArg (fun p => @decide p (Classical.propDecidable p)) (propext clean_iff.symm)
end Gy

namespace Gy
open PySem L2 PySem.Spec PyProof.Rows
/-! ### names in a list, a tuple, or a dict with text keys; d.update(e) -/
/-- at L a list or tuple of the names ss, or a dict whose keys they are -/
def InC (H : Hp) (L : Addr) (ss : List Str) : Prop := SqQ H L (ss.map V.str) ∨ ∃ kvs : List (Key × V), Rd H L (.dK kvs) ∧ ∀ n : Str, (valV kvs (Sum.inr n)).isSome = decide (n ∈ ss)
def rInA (K : PySem.W.Frag) (neg : Bool) : R2 := fun x y H Q => rIn K neg x y H Q ∨ ∃ (n : Str) (a : Addr) (kvs : List (Key × V)), x = .str n ∧ y = .ref a ∧ Rd H a (.dK kvs) ∧ Q (.bl (if neg then !(valV kvs (Sum.inr n)).isSome else (valV kvs (Sum.inr n)).isSome)) H
section
variable {X : Cx}
theorem op_in_any (hu : X.A.units + 1 < cLine) : OpR X (compareOp .In) (rInA X.K false) := by
  intro pins s σ H x y v u Q I rx ry h
  rcases h with h | ⟨n, a, kvs, rfl, rfl, hd, q⟩
  · exact op_in_seq pins s σ H x y v u Q I rx ry h
  · cases ry
    exact d_in hu I (o := valV kvs (Sum.inr n)) (.inl ⟨kvs, Sum.inr n, hd, rfl, rfl⟩) rx fun s' I' => ⟨.bl _, H, I', rfl, q⟩
theorem op_notIn_any (hu : X.A.units + 1 < cLine) : OpR X (compareOp .NotIn) (rInA X.K true) := by
  intro pins s σ H x y v u Q I rx ry h
  rcases h with h | ⟨n, a, kvs, rfl, rfl, hd, q⟩
  · exact op_notIn_seq pins s σ H x y v u Q I rx ry h
  · cases ry
    exact d_notIn hu I (o := valV kvs (Sum.inr n)) (.inl ⟨kvs, Sum.inr n, hd, rfl, rfl⟩) rx fun s' I' => ⟨.bl _, H, I', rfl, q⟩
/-- d.update(e): a dict of text and int keys, by another one -/
def tDUpd (td ty : TE) : TE := fun σ H Q => td σ H fun x H1 => ∃ a, x = .ref a ∧ IsD H1 a ∧ ty σ H1 fun y H2 => ∃ e kvs ms, y = .ref e ∧ H2 a = some (.dK kvs) ∧ H2 e = some (.dK ms) ∧ a ≠ e ∧ kvs.length + ms.length ≤ 100000 ∧ Q .non (upd H2 a (.dK (mergeK kvs ms)))
theorem pe_dupd {o e : Expr} {apos cpos : Pos} {td ty : TE} (ho : PE X o td) (he : PE X e ty) (m : M1 X o "update" apos e cpos) : PE X (.Call (.Attribute o "update" apos) [e] [] cpos) (tDUpd td ty) := by
  refine ⟨fun pins s σ H Q I h => ?_⟩
  refine wpAny_Call_method m.base m.few m.line PySem.F.plainAttrs_dict PySem.F.slot_dict_update PySem.F.type_dict_update (thn (ho.run pins s σ H _ I h) fun u s1 ⟨x, H1, I1, rx, a, ex, d, q1⟩ => ?_)
  subst ex
  obtain rfl : u = Value.ref a := rx
  obtain ⟨t1, t2, _⟩ := isD_at I1 d
  refine ⟨t1, t2, ?_⟩
  rw [m.trees]
  refine Calls.callWith_builtin rfl (Calls.evalArgs_plain (Calls.spliced_cons (thn (he.run pins s1 σ H1 _ I1 q1) fun iv s2 ⟨y, H2, I2, ry, e', kvs, ms, ey, ha, hb, ne, hl, q2⟩ => Calls.spliced_nil ?_)))
  subst ey
  obtain rfl : iv = Value.ref e' := ry
  obtain ⟨z, hd, vs, rel, dd⟩ := dk_of I2.hok ha
  obtain ⟨z2, hd2, ws, rel2, dd2⟩ := dk_of I2.hok hb
  have hz : vs.length + ws.length ≤ sizeLine := by
    rw [← rel.length, ← rel2.length, sizeLine_eq]; omega
  refine call_meetsIn PySem.F.slot_dict_update dd.typeIs PySem.F.entry_dict_update (PySem.F.args_dict_update_2 _ _) (meets_dict_update (mixKind X.prog X.w) a e' ne hd2)
    ⟨vs, ws, dd, dd2, hz, fun h' hmm _ hs => ?_⟩
  have he : ∃ q, h'.get? a = some q := let ⟨q, _, _, hq, _⟩ := hmm; ⟨q, hq⟩
  have hz2 : (mergeK kvs ms).length ≤ sizeLine := by
    have := length_mergeK ms kvs
    rw [sizeLine_eq]; omega
  exact ⟨.non, _, d_write I2 (by rw [ha]; exact True.intro) hs he (dk_new hz2 hd (rel2.merge rel) hmm), rfl, q2⟩
end
theorem InC.same {H H' : Hp} {L : Addr} {ss : List Str} (h : InC H L ss) (s : Same H H') : InC H' L ss := h.imp (fun z => z.imp (s _ _) (s _ _)) fun ⟨kvs, e, q⟩ => ⟨kvs, e.imp (s _ _) (fun ⟨o, e⟩ => ⟨o, s _ _ e⟩), q⟩
end Gy

namespace Gy
open PySem L2 PySem.Spec PyProof.Rows
/-! ### a text in a list or tuple of texts -/
theorem inV_strs (n : Str) : ∀ ss : List Str, inV (.str n) (ss.map V.str) = decide (n ∈ ss)
  | [] => rfl
  | s :: ss => by
    have ih := inV_strs n ss
    unfold inV at ih ⊢
    rw [List.map_cons, List.any_cons, ih]
    show ((s == n) || decide (n ∈ ss)) = _
    by_cases e : s = n
    · subst e
      simp
    · rw [beq_eq_false_iff_ne.mpr e, Bool.false_or]
      exact decide_eq_decide.mpr ⟨fun h => List.mem_cons_of_mem _ h, fun h => (List.mem_cons.mp h).elim (fun z => absurd z.symm e) id⟩
theorem flat_of_strs (ss : List Str) : (ss.map V.str).all flatV = true := List.all_eq_true.mpr fun v hv => by
  obtain ⟨x, _, rfl⟩ := List.mem_map.mp hv
  rfl
theorem in_read {K : PySem.W.Frag} {neg : Bool} {n : Str} {a : Addr} {ss : List Str} {H : Hp} {Q : VK} (h : SqQ H a (ss.map V.str)) (q : Q (.bl (if neg then !decide (n ∈ ss) else decide (n ∈ ss))) H) : rIn K neg (.str n) (.ref a) H Q := by
  refine ⟨a, _, rfl, h.seq, rfl, flat_of_strs ss, ?_⟩
  rw [inV_strs]
  exact q
theorem inA_read {K : PySem.W.Frag} {neg : Bool} {n : Str} {a : Addr} {ss : List Str} {H : Hp} {Q : VK} (h : InC H a ss) (q : Q (.bl (if neg then !decide (n ∈ ss) else decide (n ∈ ss))) H) : rInA K neg (.str n) (.ref a) H Q :=
  h.elim (fun h => .inl (in_read h q)) fun ⟨kvs, e, hq⟩ => .inr ⟨n, a, kvs, rfl, rfl, e, by rw [hq]; exact q⟩
theorem SqQ.same {H H' : Hp} {a : Addr} {xs : List V} (h : SqQ H a xs) (s : Same H H') : SqQ H' a xs := h.imp (s _ _) (s _ _)
def Nd.word : Nd → Str
  | .row _ _ _ => "row"
  | .knd _ _ _ _ => "kind"
def Nd.nm : Nd → Str
  | .row r _ _ => r
  | .knd n _ _ _ => n
theorem vs0 (n : Nd) : n.vs[0]? = some (.str n.word) := by cases n <;> rfl
theorem vs1 (n : Nd) : n.vs[1]? = some (.str n.nm) := by cases n <;> rfl
theorem isrow (n : Nd) : decide (V.str n.word = V.str "row") = (match n with | .row _ _ _ => true | .knd _ _ _ _ => false) := by
  cases n with
  | row r t m => exact decide_eq_true rfl
  | knd n a t m => exact decide_eq_false (by show ¬ V.str ("kind" : Str) = V.str "row"; decide +kernel)
theorem iskind (n : Nd) : decide (V.str n.word = V.str "kind") = (match n with | .row _ _ _ => false | .knd _ _ _ _ => true) := by
  cases n with
  | row r t m => exact decide_eq_false (by show ¬ V.str ("row" : Str) = V.str "kind"; decide +kernel)
  | knd n a t m => exact decide_eq_true rfl
/-! ### the package: grounds_of, can_be_met, is_bearing_by, is_on_struck, is_clean_by -/
abbrev sGrounds : Stmt := top 9
def spGrounds (K : PySem.W.Frag) : Sp := fun vs H Q _ => ∃ (p : Addr) (B : Bk) (k : Kd), vs = [.ref p, .str k.name] ∧ Rp K H (.ref p) B.d ∧ BOk B ∧ k ∈ B.kinds ∧ ∀ g gvs, H g = some (.tup gvs) → RpAll K H gvs (k.gs.map gd) → Q (.ref g) H
abbrev sMet : Stmt := top 10
def spMet (K : PySem.W.Frag) : Sp := fun vs H Q _ => ∃ (p L : Addr) (v : V) (B : Bk) (n : Nd) (ss : List Str), vs = [.ref p, v, .ref L] ∧ Rp K H (.ref p) B.d ∧ BOk B ∧ Rp K H v n.d ∧ n.ok B.rows B.names ∧ InC H L ss ∧ Q (.bl (metN B ss n)) H
abbrev sBear : Stmt := top 12
def spBear (K : PySem.W.Frag) : Sp := fun vs H Q _ => ∃ (p L : Addr) (v u : V) (B : Bk) (g : List Nd) (ss : List Str), vs = [.ref p, v, .ref L, u] ∧ Rp K H (.ref p) B.d ∧ BOk B ∧ Rp K H v (gd g) ∧ GOk B.rows B.names 3 g ∧ InC H L ss ∧ ∀ H', Same H H' → Q (.bl (metG B ss g)) H'
abbrev sOnS : Stmt := top 16
def spOnS (K : PySem.W.Frag) : Sp := fun vs H Q _ => ∃ (v : V) (S : Addr) (n : Nd) (st : List Str), vs = [v, .ref S] ∧ Rp K H v n.d ∧ SqQ H S (st.map V.str) ∧ Q (.bl (onS st n)) H
abbrev sClean : Stmt := top 17
def spClean (K : PySem.W.Frag) : Sp := fun vs H Q _ => ∃ (p L S : Addr) (v : V) (B : Bk) (g : List Nd) (ss st : List Str), vs = [.ref p, v, .ref L, .ref S] ∧ Rp K H (.ref p) B.d ∧ BOk B ∧ Rp K H v (gd g) ∧ GOk B.rows B.names 3 g ∧ InC H L ss ∧ SqQ H S (st.map V.str) ∧ ∀ H', Same H H' → Q (.bl (rClean B st ss g)) H'
section
variable {P : Program} {w : World} {K : PySem.W.Frag} {mg : Str → Option Value} {base : Heap}
theorem scGrounds : FnScope ["rulebook", "name"] ["rulebook", "name"] (defScope sGrounds) := ⟨rfl, rfl, rfl, by decide +kernel, rfl, by decide +kernel, by decide +kernel⟩
theorem ok_grounds {f CN : Addr} {fd : FuncData} (F : Fun K "grounds_of" "grounds_of" sGrounds f fd) (CK : CalX P w K mg base 3 "kind_of" ["rulebook", "name"] (spKof K CN)) : FnOk P w K mg base CX0 4 f fd ["rulebook", "name"] (spGrounds K) := by
  refine F.ok scGrounds (fun vs H Q E h => ?_) (fun cdv A outer s H vs Q E hr h => ?_)
  · obtain ⟨p, B, k, rfl, _⟩ := h
    rfl
  · obtain ⟨p, B, k, rfl, rp, ok, hk, kQ⟩ := h
    refine ⟨_, pss_one (ps_ret (pe_ix ix_tup (pe_calX CK hr rfl (pa_cons (pv 0) (pa_cons (pv 1) pa_nil))) pe_int (fun _ _ => rfl))), ?_⟩
    refine ⟨_, rfl, _, rfl, p, .str k.name, B, rfl, rp, ⟨.str k.name, .str _, rfl⟩, fun a k' hk' e ra => ?_, fun no => absurd rfl (no k hk)⟩
    have ek : k = k' := ok.inj hk hk' (by injection e)
    subst ek
    obtain ⟨a', gp, gvs, ea, ha, hgp, rg⟩ := Kd.rp ra
    cases ea
    exact ⟨a, _, 3, .ref gp, rfl, rfl, SqT.of ha, atI_nat (j := 3) rfl, kQ gp gvs hgp rg⟩
theorem scMet : FnScope ["rulebook", "need", "names"] ["rulebook", "need", "names"] (defScope sMet) := ⟨rfl, rfl, rfl, by decide +kernel, rfl, by decide +kernel, by decide +kernel⟩
theorem ok_met {f CN : Addr} {fd : FuncData} {tk : Tok} (F : Fun K "can_be_met" "can_be_met" sMet f fd) (gR : mg "ROW" = some (.str "row" tk)) (CK : CalX P w K mg base 3 "kind_of" ["rulebook", "name"] (spKof K CN)) : FnOk P w K mg base CX0 4 f fd ["rulebook", "need", "names"] (spMet K) := by
  refine F.ok scMet (fun vs H Q E h => ?_) (fun cdv A outer s H vs Q E hr h => ?_)
  · obtain ⟨p, L, v, B, n, ss, rfl, _⟩ := h
    rfl
  · obtain ⟨p, L, v, B, n, ss, rfl, rp, ok, rn, okn, hL, kQ⟩ := h
    have hu0 := hu_of hr
    refine ⟨_, pss_cons (ps_if (pt_cmpR op_eq (pe_ix ix_tup (pv 1) pe_int (fun _ _ => rfl)) (pe_glob (v := .str "row") rfl gR ⟨_, rfl⟩) (nomark _)) (pss_one (ps_ret pe_bl)) pss_nil)
      (pss_one (ps_ret (pe_and (pe_cmpR (op_in_any hu0) (pe_ix ix_tup (pv 1) pe_int (fun _ _ => rfl)) (pv 2) (by rfl)) (pe_one (pe_cmpR op_lt (pe_ix ix_tup (pv 1) pe_int (fun _ _ => rfl)) (pe_ix ix_tup (pe_calX CK hr rfl (pa_cons (pv 0) (pa_cons (pe_ix ix_tup (pv 1) pe_int (fun _ _ => rfl)) pa_nil))) pe_int (fun _ _ => rfl)) (nomark _)))))), ?_⟩
    obtain ⟨u, rfl, hu⟩ := nd_rp rn
    refine ⟨_, rfl, u, _, 0, .str n.word, rfl, rfl, SqT.of hu, atI_nat (j := 0) (vs0 n), rfl, _, rfl, ?_⟩
    rw [isrow]
    cases n with
    | row r t m => exact iteT kQ
    | knd n a t m =>
      refine iteF ?_
      obtain ⟨k, hk, rfl⟩ := ok.kind okn.1
      refine ⟨_, rfl, u, _, 1, .str k.name, rfl, rfl, SqT.of hu, atI_nat (j := 1) rfl, _, rfl, inA_read hL ⟨_, rfl, ?_⟩⟩
      have kQ' : Q (.bl (decide (k.name ∈ ss) && decide (a < B.keepOf k.name))) H := kQ
      rw [keepOf_at ok hk] at kQ'
      refine ite2 (fun e => ?_) fun e => ?_
      · have e' : decide (k.name ∈ ss) = true := e
        rw [e', Bool.true_and] at kQ'
        refine ⟨_, rfl, u, _, 2, .int a, rfl, rfl, SqT.of hu, atI_nat (j := 2) rfl, _, rfl, _, rfl, u, _, 1, .str k.name, rfl, rfl, SqT.of hu, atI_nat (j := 1) rfl, p, .str k.name, B, rfl, rp, ⟨.str k.name, .str _, rfl⟩, fun a' k' hk' e ra => ?_, fun no => absurd rfl (no k hk)⟩
        have ek : k = k' := ok.inj hk hk' (by injection e)
        subst ek
        obtain ⟨a'', gp, gvs, ea, ha, hgp, rg⟩ := Kd.rp ra
        cases ea
        exact ⟨_, _, 1, .int k.keep, rfl, rfl, SqT.of ha, atI_nat (j := 1) rfl, _, _, rfl, rfl, kQ'⟩
      · have e' : decide (k.name ∈ ss) = false := by
          cases h : decide (k.name ∈ ss) with
          | false => rfl
          | true => exact absurd h e
        rw [e', Bool.false_and] at kQ'
        exact kQ'
theorem scBear : FnScope ["rulebook", "ground", "found", "given", "need"] ["rulebook", "ground", "found", "given"] (defScope sBear) := ⟨rfl, rfl, rfl, by decide +kernel, rfl, by decide +kernel, by decide +kernel⟩
theorem ok_bear {f : Addr} {fd : FuncData} (F : Fun K "is_bearing_by" "is_bearing_by" sBear f fd) (za : mg "all" = none) (CM : Cal P w K mg base 4 "can_be_met" ["rulebook", "need", "names"] (spMet K)) : FnOk P w K mg base CX0 5 f fd ["rulebook", "ground", "found", "given"] (spBear K) := by
  refine F.ok scBear (fun vs H Q E h => ?_) (fun cdv A outer s H vs Q E hr h => ?_)
  · obtain ⟨p, L, v, u, B, g, ss, rfl, _⟩ := h
    rfl
  · obtain ⟨p, L, v, u, B, g, ss, rfl, rp, ok, rg, okg, hL, kQ⟩ := h
    have nd := scBear.nd
    refine ⟨_, pss_one (ps_ret (pe_callB (cr_all rfl) (by rfl) za (by decide +kernel) (pa_cons (pe_lc (own := [("need", 4)]) (g := gName 4) (tt := tYes) (te := tCall (spMet K) [] E0 (tCons (tVar 0) (tCons (tVar 4) (tCons (tVar 2) tNil)))) rfl nd (pi_tup (pv 1))
      (blkOk_by (own := [("need", 4)]) (N := ["rulebook", "ground", "found", "given", "need"]) (sc := defScope sBear) (by decide +kernel)) (fun _ _ _ _ _ => pg_name (i := 4) nd rfl (Or.inl rfl)) (fun _ _ _ _ _ => pts_nil) (fun _ _ _ _ _ => pe_cal CM hr rfl (pa_cons (pv 0) (pa_cons (pv 4) (pa_cons (pv 2) pa_nil))))) pa_nil))), ?_⟩
    obtain ⟨ga, nvs, rfl, hga, rn⟩ := gd_rp rg
    have ln : nvs.length = g.length := by rw [rn.len, List.length_map]
    have l3 := okg.len
    refine ⟨_, rfl, ga, rfl, ⟨_, SqT.of hga⟩, fun Dx nD => ?_⟩
    refine lc_map (K := K) (walk_tup (xs := nvs)) ((g.map (metN B ss)).map D.bl) (by rw [List.length_map, List.length_map, ln]) (bl_flat _) nD (by omega) (fun H' s => SqT.of (s _ _ hga)) ?_ ?_ gName_mono
    · rintro m d x H4 H5 Q' hm hd s4 ⟨rfl, hx⟩ kk
      obtain ⟨n, hn, rx⟩ := at_of rn hx
      have ed : d = .bl (metN B ss n) := by
        rw [List.map_map, List.getElem?_map, hn] at hd
        exact (Option.some.inj hd).symm
      subst ed
      exact ⟨rfl, _, rfl, _, rfl, _, rfl, p, L, x, B, n, ss, rfl, rp.same s4, ok, rx.same s4, okg.ok n (List.mem_of_getElem? hn), hL.same s4, kk _ _ (Same.refl _) (.bl _)⟩
    · intro H4 zs s4 hD r
      have e := rp_bls r
      subst e
      refine ⟨Dx, g.map (metN B ss), rfl, SqL.of hD, ?_⟩
      rw [List.all_map]
      exact kQ H4 s4
theorem scOnS : FnScope ["need", "struck"] ["need", "struck"] (defScope sOnS) := ⟨rfl, rfl, rfl, by decide +kernel, rfl, by decide +kernel, by decide +kernel⟩
theorem ok_onS {f : Addr} {fd : FuncData} {tk : Tok} (F : Fun K "is_on_struck" "is_on_struck" sOnS f fd) (gR : mg "ROW" = some (.str "row" tk)) : FnOk P w K mg base CX0 1 f fd ["need", "struck"] (spOnS K) := by
  refine F.ok scOnS (fun vs H Q E h => ?_) (fun cdv A outer s H vs Q E hr h => ?_)
  · obtain ⟨v, S, n, st, rfl, _⟩ := h
    rfl
  · obtain ⟨v, S, n, st, rfl, rn, hS, kQ⟩ := h
    refine ⟨_, pss_one (ps_ret (pe_and (pe_cmpR op_eq (pe_ix ix_tup (pv 0) pe_int (fun _ _ => rfl)) (pe_glob (v := .str "row") rfl gR ⟨_, rfl⟩) (nomark _)) (pe_one (pe_cmpR op_in_seq (pe_ix ix_tup (pv 0) pe_int (fun _ _ => rfl)) (pv 1) (by rfl))))), ?_⟩
    obtain ⟨u, rfl, hu⟩ := nd_rp rn
    refine ⟨_, rfl, u, _, 0, .str n.word, rfl, rfl, SqT.of hu, atI_nat (j := 0) (vs0 n), rfl, _, rfl, ?_⟩
    rw [isrow]
    cases n with
    | row r t m => exact iteT ⟨_, rfl, u, _, 1, .str r, rfl, rfl, SqT.of hu, atI_nat (j := 1) rfl, _, rfl, in_read hS kQ⟩
    | knd n a t m => exact iteF kQ
theorem scClean : FnScope ["rulebook", "ground", "found", "struck", "need"] ["rulebook", "ground", "found", "struck"] (defScope sClean) := ⟨rfl, rfl, rfl, by decide +kernel, rfl, by decide +kernel, by decide +kernel⟩
theorem ok_clean {f : Addr} {fd : FuncData} (F : Fun K "is_clean_by" "is_clean_by" sClean f fd) (za : mg "any" = none) (CB : Cal P w K mg base 5 "is_bearing_by" ["rulebook", "ground", "found", "given"] (spBear K)) (CO : Cal P w K mg base 1 "is_on_struck" ["need", "struck"] (spOnS K)) : FnOk P w K mg base CX0 6 f fd ["rulebook", "ground", "found", "struck"] (spClean K) := by
  refine F.ok scClean (fun vs H Q E h => ?_) (fun cdv A outer s H vs Q E hr h => ?_)
  · obtain ⟨p, L, S, v, B, g, ss, st, rfl, _⟩ := h
    rfl
  · obtain ⟨p, L, S, v, B, g, ss, st, rfl, rp, ok, rg, okg, hL, hS, kQ⟩ := h
    have nd := scClean.nd
    have hr1 := hr.mono (by decide : 1 ≤ 5)
    refine ⟨_, pss_one (ps_ret (pe_and (pe_cal CB hr rfl (pa_cons (pv 0) (pa_cons (pv 1) (pa_cons (pv 2) (pa_cons pe_non pa_nil))))) (pe_one (pe_not (pe_callB (cr_any rfl) (by rfl) za PyProof.Rows.boot_any (pa_cons (pe_lc (own := [("need", 4)]) (g := gName 4) (tt := tYes) (te := tCall (spOnS K) [] E0 (tCons (tVar 4) (tCons (tVar 3) tNil))) rfl nd (pi_tup (pv 1))
      (blkOk_by (own := [("need", 4)]) (N := ["rulebook", "ground", "found", "struck", "need"]) (sc := defScope sClean) (by decide +kernel)) (fun _ _ _ _ _ => pg_name (i := 4) nd rfl (Or.inl rfl)) (fun _ _ _ _ _ => pts_nil) (fun _ _ _ _ _ => pe_cal CO hr1 rfl (pa_cons (pv 4) (pa_cons (pv 3) pa_nil)))) pa_nil)))))), ?_⟩
    obtain ⟨ga, nvs, rfl, hga, rn⟩ := gd_rp rg
    have ln : nvs.length = g.length := by rw [rn.len, List.length_map]
    have l3 := okg.len
    refine ⟨_, rfl, _, rfl, _, rfl, p, L, .ref ga, .non, B, g, ss, rfl, rp, ok, rg, okg, hL, fun H1 s1 => ⟨_, rfl, ite2 (fun e => ?_) fun e => ?_⟩⟩
    · have hga1 := s1 _ _ hga
      refine ⟨_, rfl, ga, rfl, ⟨_, SqT.of hga1⟩, fun Dx nD => ?_⟩
      refine lc_map (K := K) (walk_tup (xs := nvs)) ((g.map (onS st)).map D.bl) (by rw [List.length_map, List.length_map, ln]) (bl_flat _) nD (by omega) (fun H' s => SqT.of (s _ _ hga1)) ?_ ?_ gName_mono
      · rintro m d x H4 H5 Q' hm hd s4 ⟨rfl, hx⟩ kk
        obtain ⟨n, hn, rx⟩ := at_of rn hx
        have ed : d = .bl (onS st n) := by
          rw [List.map_map, List.getElem?_map, hn] at hd
          exact (Option.some.inj hd).symm
        subst ed
        exact ⟨rfl, _, rfl, _, rfl, x, S, n, st, rfl, rx.same (s1.trans s4), hS.same (s1.trans s4), kk _ _ (Same.refl _) (.bl _)⟩
      · intro H4 zs s4 hD r
        have e' := rp_bls r
        subst e'
        refine ⟨Dx, g.map (onS st), rfl, SqL.of hD, _, rfl, ?_⟩
        rw [List.any_map]
        have q := kQ H4 (s1.trans s4)
        unfold rClean at q
        rw [e, Bool.true_and] at q
        exact q
    · have q := kQ H1 s1
      unfold rClean at q
      have e' : metG B ss g = false := by
        cases h : metG B ss g with
        | false => rfl
        | true => exact absurd h e
      rw [e', Bool.false_and] at q
      exact q
end
end Gy

namespace Gy
open PySem L2 PySem.Spec PyProof.Rows
/-! ### forced_places, is_able_by, grown_kinds -/
theorem rp_nats {K : PySem.W.Frag} {H : Hp} : ∀ {is : List Nat} {xs : List V}, RpAll K H xs (is.map fun i : Nat => D.int i) → xs = is.map fun i : Nat => V.int i
  | [], _, .nil => rfl
  | i :: is, _, .cons r rs => by
    cases r
    rw [rp_nats rs]
    rfl
theorem rp_of_nats {K : PySem.W.Frag} {H : Hp} : ∀ (is : List Nat), RpAll K H (is.map fun i : Nat => V.int i) (is.map fun i : Nat => D.int i)
  | [] => .nil
  | i :: is => .cons (.int _) (rp_of_nats is)
theorem nat_flat : ∀ is : List Nat, D.flatAll (is.map fun i : Nat => D.int i) = true
  | [] => rfl
  | i :: is => by simp only [List.map_cons, D.flatAll, D.flat, nat_flat is, Bool.and_self]
theorem nats_dp {K : PySem.W.Frag} {H : Hp} {a : Addr} {is : List Nat} (h : H a = some (.lst (is.map fun i : Nat => V.int i))) : Dp K H (.ref a) (.list (D.pyAll (is.map fun i : Nat => D.int i))) ∧ SeqAt.shaped (.list (D.pyAll (is.map fun i : Nat => D.int i))) = true ∧ (!PyData.eqv (.list (D.pyAll (is.map fun i : Nat => D.int i))) (.list [])) = decide (is ≠ []) := by
  have pl : D.plainAll (is.map fun i : Nat => D.int i) = true := flat_plainAll _ (nat_flat is)
  refine ⟨.lst (SqL.of h) ((rp_of_nats is).dp pl), ?_, ?_⟩
  · have q : PyData.canLayAll0 (D.pyAll (is.map fun i : Nat => D.int i)) = true ∧ PyData.depthAll (D.pyAll (is.map fun i : Nat => D.int i)) = 0 := by
      clear h pl
      induction is with
      | nil => exact ⟨rfl, rfl⟩
      | cons i is ih => exact ⟨by simp only [List.map_cons, D.pyAll, D.py, PyData.canLayAll0, PyData.canLay0, ih.1, Bool.and_self], by simp only [List.map_cons, D.pyAll, D.py, PyData.depthAll, PyData.depth, ih.2]; rfl⟩
    unfold SeqAt.shaped
    simp only [PyData.canLay0, PyData.depth, q.1, q.2, Bool.true_and]
    decide
  · cases is with
    | nil => rfl
    | cons i is =>
      simp only [List.map_cons, D.pyAll, PyData.eqv, PyData.eqvAll]
      rfl
theorem strs_dp {K : PySem.W.Frag} {H : Hp} {a : Addr} {ss : List Str} (h : H a = some (.lst (ss.map V.str))) (hm : ∀ x ∈ ss, x ∈ menu) : Dp K H (.ref a) (.list (D.pyAll (ss.map D.str))) ∧ SeqAt.shaped (.list (D.pyAll (ss.map D.str))) = true ∧ (!PyData.eqv (.list (D.pyAll (ss.map D.str))) (.list [])) = decide (ss ≠ []) := by
  have f := (FineL.of (ds := ss.map D.str) (n := 1) (m := 0) fun d hd => by
    obtain ⟨x, hx, rfl⟩ := List.mem_map.mp hd
    exact fine_name (hm x hx)).lst
  obtain ⟨f1, f2, _⟩ := f.shaped (by decide)
  refine ⟨(Rp.lst h (rp_of_strs ss)).dp f1, f2, ?_⟩
  cases ss with
  | nil => rfl
  | cons i is =>
    simp only [List.map_cons, D.pyAll, PyData.eqv, PyData.eqvAll]
    rfl
def spForced (K : PySem.W.Frag) : Sp := fun vs H Q _ => ∃ (v : V) (S C : Addr) (g : List Nd) (st cl : List Str), vs = [v, .ref S, .ref C] ∧ Rp K H v (gd g) ∧ g.length ≤ 3 ∧ SqQ H S (st.map V.str) ∧ SqQ H C (cl.map V.str) ∧
  ∀ l H', Same H H' → H l = none → H' l = some (.lst ((places (forcedN st cl) g).map fun i : Nat => V.int i)) → Q (.ref l) H'
def spAble (K : PySem.W.Frag) : Sp := fun vs H Q _ => ∃ (p L G S C E : Addr) (v : V) (B : Bk) (g : List Nd) (ss st cl be : List Str), vs = [.ref p, v, .ref L, .ref G] ∧ Rp K H (.ref p) B.d ∧ BOk B ∧ Rp K H v (gd g) ∧ GOk B.rows B.names 3 g ∧ SqQ H L (ss.map V.str) ∧
  H G = some (.tup [.ref S, .ref C, .ref E]) ∧ SqQ H S (st.map V.str) ∧ SqQ H C (cl.map V.str) ∧ SqQ H E (be.map V.str) ∧ ∀ H', Same H H' → Q (.bl (rAble B be cl st ss g)) H'
theorem places_succ (f : Nd → Bool) (g : List Nd) (j : Nat) : (List.range (j + 1)).filter (fun i => f (g.getD i (.row "" 0 0))) = (List.range j).filter (fun i => f (g.getD i (.row "" 0 0))) ++ (if f (g.getD j (.row "" 0 0)) = true then [j] else []) := by
  rw [List.range_succ, List.filter_append, List.filter_cons, List.filter_nil]
abbrev ttForced (K : PySem.W.Frag) : TT := tOr (tB (tCall (spOnS K) [] E0 (tCons (tVar 5) (tCons (tVar 1) tNil)))) (tAnd (tTest (tOp rNe (tOp (rIxT K) (tVar 5) (tC (.int 0))) (tC (.str "row")))) (tTest (tOp (rIn K true) (tOp (rIxT K) (tVar 5) (tC (.int 1))) (tVar 2))))
theorem forced_read {K : PySem.W.Frag} {σ : L2.St} {H : Hp} {x : V} {S C : Addr} {n : Nd} {st cl : List Str} {Q : Bool → Hp → Prop} (h5 : σ[5]? = some (some x)) (h1 : σ[1]? = some (some (.ref S))) (h2 : σ[2]? = some (some (.ref C))) (rn : Rp K H x n.d) (hS : SqQ H S (st.map V.str)) (hC : SqQ H C (cl.map V.str)) (q : Q (forcedN st cl n) H) : ttForced K σ H Q := by
  refine ⟨_, h5, _, h1, x, S, n, st, rfl, rn, hS, onS st n, rfl, ?_⟩
  obtain ⟨u, rfl, hu⟩ := nd_rp rn
  cases n with
  | row r t m =>
    refine ite2 (fun e => ?_) fun e => ?_
    · have e' : forcedN st cl (.row r t m) = true := e
      rw [e'] at q
      exact q
    · refine ⟨_, h5, u, _, 0, .str "row", rfl, rfl, SqT.of hu, atI_nat (j := 0) rfl, rfl, _, rfl, ?_⟩
      have z : (!decide (V.str "row" = V.str "row")) = false := by decide +kernel
      rw [z]
      have e' : forcedN st cl (.row r t m) = false := by
        cases h : forcedN st cl (.row r t m) with
        | false => rfl
        | true => exact absurd h e
      rw [e'] at q
      exact iteF q
  | knd n a t m =>
    refine iteF ⟨_, h5, u, _, 0, .str "kind", rfl, rfl, SqT.of hu, atI_nat (j := 0) rfl, rfl, _, rfl, ?_⟩
    have z : (!decide (V.str "kind" = V.str "row")) = true := by decide +kernel
    rw [z]
    exact iteT ⟨_, h5, u, _, 1, .str n, rfl, rfl, SqT.of hu, atI_nat (j := 1) rfl, _, h2, in_read hC ⟨_, rfl, q⟩⟩
section
variable {P : Program} {w : World} {K : PySem.W.Frag} {mg : Str → Option Value} {base : Heap}
abbrev teOld (K : PySem.W.Frag) : TE := tAndV (tOp rNe (tOp (rIxT K) (tVar 7) (tC (.int 0))) (tC (.str "row"))) (tOp (rIn K false) (tOp (rIxT K) (tVar 7) (tC (.int 1))) (tVar 2))
theorem old_read {K : PySem.W.Frag} {σ : L2.St} {H : Hp} {x : V} {L : Addr} {n : Nd} {ss : List Str} {Q : VK} (h7 : σ[7]? = some (some x)) (h2 : σ[2]? = some (some (.ref L))) (rn : Rp K H x n.d) (hL : SqQ H L (ss.map V.str)) (q : Q (.bl (oldN ss n)) H) : teOld K σ H Q := by
  obtain ⟨u, rfl, hu⟩ := nd_rp rn
  cases n with
  | row r t m =>
    refine ⟨_, h7, u, _, 0, .str "row", rfl, rfl, SqT.of hu, atI_nat (j := 0) rfl, rfl, _, rfl, ?_⟩
    have z : (!decide (V.str "row" = V.str "row")) = false := by decide +kernel
    rw [z]
    exact iteF q
  | knd n a t m =>
    refine ⟨_, h7, u, _, 0, .str "kind", rfl, rfl, SqT.of hu, atI_nat (j := 0) rfl, rfl, _, rfl, ?_⟩
    have z : (!decide (V.str "kind" = V.str "row")) = true := by decide +kernel
    rw [z]
    exact iteT ⟨_, h7, u, _, 1, .str n, rfl, rfl, SqT.of hu, atI_nat (j := 1) rfl, _, h2, in_read hL q⟩
end
end Gy

namespace Gy
open PySem L2 PySem.Spec PyProof.Rows
/-! ### grown_kinds -/
abbrev sGrown : Stmt := top 11
/-- what the def that is handed in promises of the rulebook at p -/
def spRight (K : PySem.W.Frag) (H0 : Hp) (p : Addr) (gv : V) (B : Bk) (right : List Str → List Nd → Bool) : Sp := fun vs H Q _ => ∃ (v : V) (L : Addr) (g : List Nd) (ss : List Str), vs = [.ref p, v, .ref L, gv] ∧ Same H0 H ∧ Rp K H v (gd g) ∧ GOk B.rows B.names 3 g ∧ H L = some (.lst (ss.map V.str)) ∧
  ∀ H', Same H H' → Q (.bl (right ss g)) H'
def spGrown (P : Program) (w : World) (K : PySem.W.Frag) (mg : Str → Option Value) (base : Heap) : Sp := fun vs H Q _ => ∃ (p f : Addr) (gv : V) (B : Bk) (right : List Str → List Nd → Bool), vs = [.ref p, .ref f, gv] ∧ Rp K H (.ref p) B.d ∧ BOk B ∧ PySem.W.keepIn K (.ref f) = true ∧
  FnR P w K mg base CX0 6 f (spRight K H p gv B right) ∧ ∀ t H' ss, Same H H' → H t = none → H' t = some (.tup (ss.map V.str)) → (MonoR right → ss = lsL B right) → Q (.ref t) H'
def newK (B : Bk) (right : List Str → List Nd → Bool) (l : List Str) (ks : List Kd) : List Str := (ks.filter fun k => !decide (k.name ∈ l) && k.gs.any (right l)).map Kd.name
theorem newK_succ {B : Bk} {right : List Str → List Nd → Bool} {l : List Str} {i : Nat} {k : Kd} (h : B.kinds[i]? = some k) : newK B right l (B.kinds.take (i + 1)) = newK B right l (B.kinds.take i) ++ (if (!decide (k.name ∈ l) && k.gs.any (right l)) = true then [k.name] else []) := by
  unfold newK
  rw [List.take_succ, h, List.filter_append, List.map_append]
  congr 1
  show ((List.filter _ [k]).map Kd.name) = _
  rw [List.filter_cons, List.filter_nil]
  split <;> rfl
theorem newK_in {B : Bk} {right : List Str → List Nd → Bool} {l : List Str} {x : Str} (h : x ∈ newK B right l B.kinds) : x ∉ l ∧ ∃ k ∈ B.kinds, k.name = x ∧ k.gs.any (right l) = true := by
  obtain ⟨k, hk, rfl⟩ := List.mem_map.mp h
  obtain ⟨h1, h2⟩ := List.mem_filter.mp hk
  simp only [Bool.and_eq_true, Bool.not_eq_true', decide_eq_false_iff_not] at h2
  exact ⟨h2.1, k, h1, rfl, h2.2⟩
theorem newK_nodup {B : Bk} (ok : BOk B) {right : List Str → List Nd → Bool} {l : List Str} : (newK B right l B.kinds).Nodup := ok.names.nd.sublist ((List.filter_sublist).map Kd.name)
theorem newK_nil {B : Bk} {right : List Str → List Nd → Bool} {l : List Str} (h : newK B right l B.kinds = []) : ClosedR B right l := fun k hk a => by
  by_cases hm : k.name ∈ l
  · exact hm
  · have : k.name ∈ newK B right l B.kinds := List.mem_map_of_mem (List.mem_filter.mpr ⟨hk, by simp only [decide_eq_false hm, Bool.not_false, Bool.true_and, a]⟩)
    rw [h] at this
    cases this
section
variable {P : Program} {w : World} {K : PySem.W.Frag} {mg : Str → Option Value} {base : Heap}
theorem scGrown : FnScope ["rulebook", "is_right", "given", "found", "grows", "more", "name", "keep", "bar", "grounds", "ground"] ["rulebook", "is_right", "given"] (defScope sGrown) := ⟨rfl, rfl, rfl, by decide +kernel, rfl, by decide +kernel, by decide +kernel⟩
theorem ok_grown {f : Addr} {fd : FuncData} (F : Fun K "grown_kinds" "grown_kinds" sGrown f fd) (za : mg "any" = none) (zt : mg "tuple" = none) (zs : mg "sorted" = none) : FnOk P w K mg base CX0 7 f fd ["rulebook", "is_right", "given"] (spGrown P w K mg base) := by
  refine F.ok scGrown (fun vs H Q E h => ?_) (fun cdv A outer s H vs Q E hr h => ?_)
  · obtain ⟨p, fr, gv, B, right, rfl, _⟩ := h
    rfl
  · obtain ⟨p, fr, gv, B, right, rfl, rp, ok, kf, FR, kQ⟩ := h
    have nd := scGrown.nd
    have hu := hr.units
    refine ⟨_, pss_cons (ps_asg (pe_tup (pa_cons (pe_lst pa_nil) (pa_cons pe_bl pa_nil))) (pg_tup rfl (pgs_cons (pg_name (i := 3) nd rfl (Or.inr rfl)) (pgs_cons (pg_name (i := 4) nd rfl (Or.inl rfl)) pgs_nil))))
      (pss_cons (ps_while PassesOwn.never (pt_val (pv 4))
        (pss_cons (ps_set (i := 5) nd rfl (Or.inl rfl) (pe_lst pa_nil))
        (pss_cons (ps_for PassesOwn.never rfl (pi_tup (pe_ix ix_tup (pv 0) pe_int (fun _ _ => rfl))) (pg_tup rfl (pgs_cons (pg_name (i := 6) nd rfl (Or.inl rfl)) (pgs_cons (pg_name (i := 7) nd rfl (Or.inl rfl)) (pgs_cons (pg_name (i := 8) nd rfl (Or.inl rfl)) (pgs_cons (pg_name (i := 9) nd rfl (Or.inl rfl)) pgs_nil)))))
          (pss_one (ps_if (PW.pt (pw_and (pt_cmpR op_notIn_seq (pv 6) (pv 3) (by rfl)) (pw_and1 (pt_val (pe_callB (cr_any rfl) (by rfl) za PyProof.Rows.boot_any (pa_cons
              (pe_lc (own := [("ground", 10)]) (g := gName 10) (tt := tYes) (te := ItX.tCallV 1 fr (spRight K H p gv B right) E0 (tCons (tVar 0) (tCons (tVar 10) (tCons (tVar 3) (tCons (tVar 2) tNil))))) rfl nd (pi_tup (pv 9))
                (blkOk_by (own := [("ground", 10)]) (N := ["rulebook", "is_right", "given", "found", "grows", "more", "name", "keep", "bar", "grounds", "ground"]) (sc := defScope sGrown) (by decide +kernel)) (fun _ _ _ _ _ => pg_name (i := 10) nd rfl (Or.inl rfl)) (fun _ _ _ _ _ => pts_nil)
                (fun _ _ _ _ _ => ItX.pe_callV FR hr kf pass0 rfl (Or.inr (Or.inl rfl)) (pa_cons (pv 0) (pa_cons (pv 10) (pa_cons (pv 3) (pa_cons (pv 2) pa_nil)))))) pa_nil))))))
            (pss_one (ps_expr (by exact (pe_bm PySem.F.plainAttrs_list PySem.F.slot_list_append PySem.F.type_list_append mt_append (pv 5) (pa_cons (pv 6) pa_nil))))) pss_nil)))
        (pss_cons (ps_set (i := 4) nd rfl (Or.inl rfl) (pe_cmpR (op_neD hu) (pv 5) (pe_lst pa_nil) (nomark _)))
        (pss_one (ps_set (i := 3) nd rfl (Or.inr rfl) (pe_op op_cat (pv 3) (pv 5))))))))
      (pss_one (ps_ret (pe_tupleOf (by rfl) zt (pe_callB cr_sortedS (by rfl) zs (by decide +kernel) (pa_cons (pv 3) pa_nil)))))), ?_⟩
    obtain ⟨pr, pk, ks, hp, hpr, hpk, rks⟩ := Bk.rp_rows rp
    have lk : ks.length = B.kinds.length := by rw [rks.len, List.length_map]
    have lb := ok.len
    have lnm := ok.names.len
    refine ⟨Nat.zero_le _, fun L nL => ⟨by show 2 ≤ sizeLine; decide, fun t0 nt0 => ?_⟩⟩
    have s1 : Same H (upd H L (.lst [])) := same_new (Same.refl H) nL
    have h1 : upd H L (.lst []) L = some (.lst []) := upd_same
    generalize upd H L (.lst []) = H1 at s1 h1 nt0
    have s2 : Same H1 (upd H1 t0 (.tup [.ref L, .bl true])) := same_new (Same.refl H1) nt0
    have h2 : upd H1 t0 (.tup [.ref L, .bl true]) t0 = some (.tup [.ref L, .bl true]) := upd_same
    generalize upd H1 t0 (.tup [.ref L, .bl true]) = H2 at s2 h2
    refine ⟨t0, _, rfl, SqT.of h2, rfl, _, _, rfl, _, _, rfl, rfl, ?_⟩
    try dsimp only
    show tSeq _ _ _ [some (.ref p), some (.ref fr), some gv, some (.ref L), some (.bl true), none, none, none, none, none, none] H2
    refine ⟨fun m σ' H' => ∃ (Lf : Addr) (gr : Bool) (found : List Str), (∃ x5 x6 x7 x8 x9 x10, σ' = [some (.ref p), some (.ref fr), some gv, some (.ref Lf), some (.bl gr), x5, x6, x7, x8, x9, x10]) ∧ Same H H' ∧ H' Lf = some (.lst (found.map V.str)) ∧ found.Nodup ∧ (∀ x ∈ found, LS B right x) ∧ (gr = false → ClosedR B right found) ∧ m = 2 * (15 - found.length) + (if gr = true then 1 else 0),
      ⟨_, L, true, [], ⟨_, _, _, _, _, _, rfl⟩, s1.trans s2, s2 _ _ h1, List.nodup_nil, (fun x m => absurd m List.not_mem_nil), (fun z => Bool.noConfusion z), rfl⟩, ?_⟩
    rintro m σ' H3 ⟨Lf, gr, found, ⟨x5, x6, x7, x8, x9, x10, rfl⟩, s3, hLf, ndf, lsf, clf, rfl⟩
    refine ⟨_, rfl, gr, rfl, ?_⟩
    have lf : found.length ≤ 15 := Nat.le_trans (nodup_sub ndf fun x hx => (lsf x hx).isin) lnm
    cases gr with
    | false =>
      refine iteF ?_
      refine ⟨_, rfl, Lf, found, rfl, SqL.of hLf, by omega, fun ws r pw sw nr => .inl ⟨r, _, rfl, SqL.of upd_same, fun t nt => ?_⟩⟩
      have s4 : Same H3 (upd H3 r (.lst (ws.map V.str))) := same_new (Same.refl H3) nr
      generalize upd H3 r (.lst (ws.map V.str)) = H4 at s4 nt
      have s5 : Same H4 (upd H4 t (.tup (ws.map V.str))) := same_new (Same.refl H4) nt
      exact kQ t _ ws (s3.trans (s4.trans s5)) ((s3.trans s4).free nt) upd_same fun mono => sorted_one sw (lsL_sorted ok) (pw.trans (is_lsL ok mono ndf lsf (clf rfl)))
    | true =>
      refine iteT ⟨fun σ' H' => ∃ (Lf' : Addr) (gr : Bool) (found' : List Str), (∃ x5 x6 x7 x8 x9 x10, σ' = [some (.ref p), some (.ref fr), some gv, some (.ref Lf'), some (.bl gr), x5, x6, x7, x8, x9, x10]) ∧ Same H H' ∧ H' Lf' = some (.lst (found'.map V.str)) ∧ found'.Nodup ∧ (∀ x ∈ found', LS B right x) ∧ (gr = false → ClosedR B right found') ∧ 2 * (15 - found'.length) + (if gr = true then 1 else 0) < 2 * (15 - found.length) + 1,
        fun σ' H' ⟨Lf', gr', found', h1, h2, h3, h4, h5, h6, h7⟩ => ⟨_, h7, Lf', gr', found', h1, h2, h3, h4, h5, h6, rfl⟩, ?_⟩
      refine ⟨Nat.zero_le _, fun M nM => ?_⟩
      have n0M : H M = none := s3.free nM
      have LM : Lf ≠ M := fun z => by rw [z, nM] at hLf; cases hLf
      have s4 : Same H3 (upd H3 M (.lst [])) := same_new (Same.refl H3) nM
      have h4 : upd H3 M (.lst []) M = some (.lst (([] : List Str).map V.str)) := upd_same
      generalize upd H3 M (.lst []) = H4 at s4 h4
      try dsimp only
      show tSeq _ _ _ [some (.ref p), some (.ref fr), some gv, some (.ref Lf), some (.bl true), some (.ref M), x6, x7, x8, x9, x10] H4
      have s04 := s3.trans s4
      refine ⟨_, rfl, p, _, 1, .ref pk, rfl, rfl, SqT.of (s04 _ _ hp), atI_nat (j := 1) rfl, pk, rfl, ⟨_, SqT.of (s04 _ _ hpk)⟩, for_tup (xs := ks) (fun i σ' H' => (∃ x6 x7 x8 x9 x10, σ' = [some (.ref p), some (.ref fr), some gv, some (.ref Lf), some (.bl true), some (.ref M), x6, x7, x8, x9, x10]) ∧ Same H H' ∧ H' Lf = some (.lst (found.map V.str)) ∧ H' M = some (.lst ((newK B right found (B.kinds.take i)).map V.str)))
        ⟨⟨_, _, _, _, _, rfl⟩, s04, s4 _ _ hLf, h4⟩ (fun i σ' H' _ z => SqT.of (z.2.1 _ _ hpk)) ?_ ?_⟩
      · rintro i x σ' H' hi ⟨⟨x6, x7, x8, x9, x10, rfl⟩, s5, hL5, hM5⟩
        obtain ⟨kd, hk, rk⟩ := at_of rks hi
        obtain ⟨a, g, gvs, rfl, ha, hg, rg⟩ := Kd.rp rk
        have kin : kd ∈ B.kinds := List.mem_of_getElem? hk
        have il : i < 15 := by
          have := (List.getElem?_eq_some_iff.mp hk).1
          omega
        have lnew : (newK B right found (B.kinds.take i)).length ≤ 15 := by
          unfold newK
          rw [List.length_map]
          have := List.length_filter_le (fun k => !decide (k.name ∈ found) && k.gs.any (right found)) (B.kinds.take i)
          rw [List.length_take] at this
          omega
        refine ⟨a, _, rfl, SqT.of (s5 _ _ ha), rfl, _, _, rfl, _, _, rfl, _, _, rfl, _, _, rfl, rfl, ?_⟩
        have es := newK_succ (B := B) (right := right) (l := found) hk
        refine ⟨_, rfl, _, rfl, in_read (neg := true) (.inl hL5) ⟨_, rfl, ?_⟩⟩
        show if (!decide (kd.name ∈ found)) = true then _ else _
        refine ite2 (fun e1 => ?_) fun e1 => ?_
        · refine ⟨_, rfl, g, rfl, ⟨_, SqT.of (s5 _ _ hg)⟩, fun Dx nD => ?_⟩
          have lgv : gvs.length = kd.gs.length := by rw [rg.len, List.length_map]
          have lg4 := (ok.kinds kd kin).len
          refine lc_map (K := K) (walk_tup (xs := gvs)) ((kd.gs.map (right found)).map D.bl) (by rw [List.length_map, List.length_map, lgv]) (bl_flat _) nD (by omega) (fun H' s => SqT.of (s _ _ (s5 _ _ hg))) ?_ ?_ gName_mono
          · rintro j d x Ha Hb Q' hj hd sa ⟨rfl, hx⟩ kk
            obtain ⟨gr', hgr, rgr⟩ := at_of rg hx
            have ed : d = .bl (right found gr') := by
              rw [List.map_map, List.getElem?_map, hgr] at hd
              exact (Option.some.inj hd).symm
            subst ed
            exact ⟨rfl, rfl, _, rfl, _, rfl, _, rfl, _, rfl, x, Lf, gr', found, rfl, s5.trans sa, rgr.same (s5.trans sa), (ok.kinds kd kin).gs gr' (List.mem_of_getElem? hgr), sa _ _ hL5, fun H' s' => kk _ H' s' (.bl _)⟩
          · intro H6 zs s6 hD r
            have e := rp_bls r
            subst e
            have hM6 := s6 _ _ hM5
            refine ⟨Dx, kd.gs.map (right found), rfl, SqL.of hD, _, rfl, ?_⟩
            rw [List.any_map]
            refine ite2 (fun e2 => ?_) fun e2 => ?_
            · have e2' : kd.gs.any (right found) = true := e2
              rw [e1, e2', Bool.and_self, if_pos rfl] at es
              refine ⟨_, rfl, .inl ⟨rfl, _, SqL.of hM6⟩, _, rfl, M, _, .str kd.name, rfl, rfl, hM6, by rw [List.length_map, sizeLine_eq]; omega, ⟨_, _, _, _, _, rfl⟩, same_put (s5.trans s6) n0M, by rw [upd_ne LM]; exact s6 _ _ hL5, ?_⟩
              rw [upd_same, es, List.map_append]
              rfl
            · have e2' : kd.gs.any (right found) = false := by
                cases h : kd.gs.any (right found) with
                | false => rfl
                | true => exact absurd h e2
              rw [e2', Bool.and_false, if_neg (by decide), List.append_nil] at es
              refine ⟨⟨_, _, _, _, _, rfl⟩, s5.trans s6, s6 _ _ hL5, ?_⟩
              rw [es]
              exact hM6
        · have e1' : (!decide (kd.name ∈ found)) = false := by
            cases h : (!decide (kd.name ∈ found)) with
            | false => rfl
            | true => exact absurd h e1
          rw [e1', Bool.false_and, if_neg (by decide), List.append_nil] at es
          refine ⟨⟨_, _, _, _, _, rfl⟩, s5, hL5, ?_⟩
          rw [es]
          exact hM5
      · rintro σ' H5 ⟨⟨x6, x7, x8, x9, x10, rfl⟩, s5, hL5, hM5⟩
        rw [lk, List.take_length] at hM5
        have inm : ∀ x ∈ newK B right found B.kinds, x ∈ menu := fun x hx => by
          obtain ⟨_, k, hk, e, _⟩ := newK_in hx
          rw [← e]
          exact ok.name_in hk
        try dsimp only
        show tSeq _ _ _ [some (.ref p), some (.ref fr), some gv, some (.ref Lf), some (.bl true), some (.ref M), x6, x7, x8, x9, x10] H5
        refine ⟨_, rfl, Nat.zero_le _, fun e ne => ?_⟩
        have s6 : Same H5 (upd H5 e (.lst [])) := same_new (Same.refl H5) ne
        have h6 : upd H5 e (.lst []) e = some (.lst []) := upd_same
        generalize upd H5 e (.lst []) = H6 at s6 h6
        obtain ⟨d1, d2, d3⟩ := strs_dp (K := K) (s6 _ _ hM5) inm
        refine ⟨_, .list [], d1, .lst (SqL.of h6) .nil, d2, rfl, ?_⟩
        rw [d3]
        have lnew : (newK B right found B.kinds).length ≤ 15 := by
          unfold newK
          rw [List.length_map]
          have := List.length_filter_le (fun k => !decide (k.name ∈ found) && k.gs.any (right found)) B.kinds
          omega
        refine ⟨_, rfl, _, rfl, Lf, M, _, _, rfl, rfl, s6 _ _ hL5, s6 _ _ hM5, by rw [List.length_map, List.length_map, sizeLine_eq]; omega, fun u nu => ?_⟩
        have s7 : Same H6 (upd H6 u (.lst (found.map V.str ++ (newK B right found B.kinds).map V.str))) := same_new (Same.refl H6) nu
        have ndn : (found ++ newK B right found B.kinds).Nodup := by
          rw [List.nodup_append]
          exact ⟨ndf, newK_nodup ok, fun x hx y hy e' => (newK_in hy).1 (e' ▸ hx)⟩
        have lsn : ∀ x ∈ found ++ newK B right found B.kinds, LS B right x := fun x hx => by
          rcases List.mem_append.mp hx with z | z
          · exact lsf x z
          · obtain ⟨_, k, hk, e', a⟩ := newK_in z
            rw [← e']
            exact .mk k found hk lsf a
        have ln2 : (found ++ newK B right found B.kinds).length ≤ 15 := Nat.le_trans (nodup_sub ndn fun x hx => (lsn x hx).isin) lnm
        refine ⟨u, decide (newK B right found B.kinds ≠ []), found ++ newK B right found B.kinds, ⟨_, _, _, _, _, _, rfl⟩, (s5.trans s6).trans s7, by rw [upd_same, List.map_append], ndn, lsn, fun z => ?_, ?_⟩
        · have z' : newK B right found B.kinds = [] := by
            have := of_decide_eq_false z
            exact Classical.not_not.mp this
          rw [z', List.append_nil]
          exact newK_nil z'
        · rw [List.length_append] at ln2 ⊢
          by_cases z : newK B right found B.kinds = []
          · rw [z]
            simp
          · have : 0 < (newK B right found B.kinds).length := List.length_pos_iff.mpr z
            rw [decide_eq_true z, if_pos rfl]
            omega
end
end Gy

namespace Gy
open PySem L2 PySem.Spec PyProof.Rows
/-! ### a comprehension with a condition -/
theorem flat_map {α : Type} {e : α → D} (h : ∀ x, (e x).flat = true) : ∀ xs : List α, D.flatAll (xs.map e) = true
  | [] => rfl
  | x :: xs => by simp only [List.map_cons, D.flatAll, h x, flat_map h xs, Bool.and_self]
theorem g2_mono {K : PySem.W.Frag} {i j : Nat} : ∀ x σ' H' (A B : L2.St → Hp → Prop), (∀ σ2 H2, A σ2 H2 → B σ2 H2) → gTup K 2 (gCons (gName i) (gCons (gName j) gNil)) x σ' H' A → gTup K 2 (gCons (gName i) (gCons (gName j) gNil)) x σ' H' B := by
  rintro x σ' H' A B h ⟨a, xs, e1, e2, e3, y, r, e4, y2, r2, e5, e6, q⟩
  exact ⟨a, xs, e1, e2, e3, y, r, e4, y2, r2, e5, e6, h _ _ q⟩
theorem lc_filt {α : Type} {K : PySem.W.Frag} {J : It} {n : Nat} {G : Hp → Prop} {Y : Nat → Hp → V → Hp → Prop} (wk : Walk J n G Y) {g : TG} {tt : TT} {te : TE} {σ : L2.St} {vs : List Nat} {Dx : Addr} {H1 : Hp} {Qd : Hp → Prop} (xs : List α) (f : α → Bool) (e : α → Gy.D) (hl : xs.length = n) (hf : ∀ x, (e x).flat = true) (nD : H1 Dx = none) (hn : n ≤ 100000)
    (hG : ∀ H', Same H1 H' → G H')
    (turn : ∀ i a x H' H'' (R : Hp → Prop) (Q : VK), i < n → xs[i]? = some a → Same H1 H' → Y i H' x H'' → (∀ H2, Same H' H2 → f a = false → R H2) → (∀ y H2, Same H' H2 → f a = true → Rp K H2 y (e a) → Q y H2) → g x (wipe σ vs) H'' fun σ2 H2 => wipe σ2 vs = wipe σ vs ∧ tt σ2 H2 fun bb H3 => if bb = true then te σ2 H3 Q else R H3)
    (fin : ∀ (H' : Hp) (ys : List V), Same H1 H' → H' Dx = some (.lst ys) → RpAll K H' ys ((xs.filter f).map e) → Qd H') :
    ∃ W : Nat → Nat → Hp → Prop, (∃ m, W 0 m (upd H1 Dx (.lst []))) ∧ ∀ i m H, W i m H →
      (J.stop i H ∧ Qd H) ∨ (J.go i H ∧ ∃ Nx : Hp → Prop, (∀ H', Nx H' → ∃ m', m' < m ∧ W (i + 1) m' H') ∧ ∀ x H', J.yld i H x H' → g x (wipe σ vs) H' fun σ2 H2 => wipe σ2 vs = wipe σ vs ∧ tt σ2 H2 fun bb H3 => if bb = true then te σ2 H3 fun y H4 => ∃ acc, H4 Dx = some (.lst acc) ∧ acc.length < sizeLine ∧ Nx (upd H4 Dx (.lst (acc ++ [y]))) else Nx H3) := by
  refine lc_it wk (fun i H' => Same H1 H' ∧ ∃ ys, H' Dx = some (.lst ys) ∧ RpAll K H' ys (((xs.take i).filter f).map e)) ⟨same_put (Same.refl H1) nD, [], upd_same, .nil⟩ (fun i H' _ z => hG H' z.1) ?_ ?_
  · rintro i x H' H'' hi ⟨s, ys, hD, r⟩ y
    obtain ⟨a, ha⟩ : ∃ a, xs[i]? = some a := ⟨_, List.getElem?_eq_getElem (by omega)⟩
    have es : (xs.take (i + 1)).filter f = (xs.take i).filter f ++ (if f a = true then [a] else []) := by
      rw [List.take_succ, ha, List.filter_append]
      congr 1
      show List.filter f [a] = _
      rw [List.filter_cons, List.filter_nil]
    have ly : ys.length ≤ i := by
      rw [r.len, List.length_map]
      have := List.length_filter_le f (xs.take i)
      rw [List.length_take] at this
      omega
    refine turn i a x H' H'' _ _ hi ha s y (fun H2 s2 hfa => ⟨s.trans s2, ys, s2 _ _ hD, ?_⟩) fun v H2 s2 hfa rv => ?_
    · rw [es, hfa, if_neg (by decide), List.append_nil]
      exact RpAll.same s2 r
    · have hD2 := s2 _ _ hD
      have T3 : Tups H2 (upd H2 Dx (.lst (ys ++ [v]))) := Tups.put hD2
      refine ⟨ys, hD2, by rw [sizeLine_eq]; omega, same_put (s.trans s2) nD, _, upd_same, ?_⟩
      rw [es, hfa, if_pos rfl, List.map_append]
      exact (r.tups ((Tups.same s2).trans T3) (flat_map hf _)).append (.cons (Rp.tups T3 rv (hf a)) .nil)
  · rintro H' ⟨s, ys, hD, r⟩
    rw [← hl, List.take_length] at r
    exact fin H' ys s hD r
/-! ### the package's other functions -/
abbrev sBearK : Stmt := top 13
def spBearK (K : PySem.W.Frag) : Sp := fun vs H Q _ => ∃ (p : Addr) (B : Bk), vs = [.ref p] ∧ Rp K H (.ref p) B.d ∧ BOk B ∧ ∀ t H', Same H H' → H t = none → H' t = some (.tup (B.bear.map V.str)) → Q (.ref t) H'
def spCleanK (K : PySem.W.Frag) : Sp := fun vs H Q _ => ∃ (p S : Addr) (B : Bk) (st : List Str), vs = [.ref p, .ref S] ∧ Rp K H (.ref p) B.d ∧ BOk B ∧ SqQ H S (st.map V.str) ∧ ∀ t H', Same H H' → H t = none → H' t = some (.tup ((B.clean st).map V.str)) → Q (.ref t) H'
def spAbleK (K : PySem.W.Frag) : Sp := fun vs H Q _ => ∃ (p S : Addr) (B : Bk) (st : List Str), vs = [.ref p, .ref S] ∧ Rp K H (.ref p) B.d ∧ BOk B ∧ SqQ H S (st.map V.str) ∧ ∀ t H', Same H H' → H t = none → H' t = some (.tup ((B.able st).map V.str)) → Q (.ref t) H'
def liveL (B : Bk) (be : List Str) (gs : List (List Nd)) : List Nat := (List.range gs.length).filter fun i => metG B be (gs.getD i [])
abbrev sLiveOf : Stmt := top 14
def spLiveOf (K : PySem.W.Frag) : Sp := fun vs H Q _ => ∃ (p G E : Addr) (B : Bk) (gs : List (List Nd)) (gvs : List V) (be : List Str), vs = [.ref p, .ref G, .ref E] ∧ Rp K H (.ref p) B.d ∧ BOk B ∧ H G = some (.tup gvs) ∧ RpAll K H gvs (gs.map gd) ∧ (∀ g ∈ gs, GOk B.rows B.names 3 g) ∧ gs.length ≤ 4 ∧ InC H E be ∧
  ∀ l H', Same H H' → H l = none → H' l = some (.lst ((liveL B be gs).map fun i : Nat => V.int i)) → Q (.ref l) H'
abbrev sLiveG : Stmt := top 15
def spLiveG (K : PySem.W.Frag) : Sp := fun vs H Q _ => ∃ (p : Addr) (B : Bk) (k : Kd), vs = [.ref p, .str k.name] ∧ Rp K H (.ref p) B.d ∧ BOk B ∧ k ∈ B.kinds ∧
  ∀ l H', Same H H' → H l = none → H' l = some (.lst ((liveL B B.bear k.gs).map fun i : Nat => V.int i)) → Q (.ref l) H'
def spForcedN (K : PySem.W.Frag) : Sp := fun vs H Q _ => ∃ (p S : Addr) (B : Bk) (k : Kd) (st : List Str) (i : Nat) (g : List Nd), vs = [.ref p, .ref S, .str k.name, .int i] ∧ Rp K H (.ref p) B.d ∧ BOk B ∧ k ∈ B.kinds ∧ k.gs[i]? = some g ∧ SqQ H S (st.map V.str) ∧
  ∀ l H', Same H H' → H l = none → H' l = some (.lst ((places (forcedN st (B.clean st)) g).map fun i : Nat => V.int i)) → Q (.ref l) H'
def natsD (l : List Nat) : D := .tup (l.map fun i : Nat => D.int i)
def oldD (st cl ab : List Str) (g : List Nd) : D :=
  if places (forcedN st cl) g ≠ [] then .tup [.str "all", natsD (places (forcedN st cl) g)] else if places (oldN ab) g ≠ [] then .tup [.str "one", natsD (places (oldN ab) g)] else .tup [.str "none", .tup []]
def spOldP (K : PySem.W.Frag) : Sp := fun vs H Q _ => ∃ (v : V) (S C A : Addr) (g : List Nd) (st cl ab : List Str), vs = [v, .ref S, .ref C, .ref A] ∧ Rp K H v (gd g) ∧ g.length ≤ 3 ∧ SqQ H S (st.map V.str) ∧ SqQ H C (cl.map V.str) ∧ SqQ H A (ab.map V.str) ∧
  ∀ r H', Same H H' → Rp K H' r (oldD st cl ab g) → Q r H'
def spOldNd (K : PySem.W.Frag) : Sp := fun vs H Q _ => ∃ (p S : Addr) (B : Bk) (k : Kd) (st : List Str) (i : Nat) (g : List Nd), vs = [.ref p, .ref S, .str k.name, .int i] ∧ Rp K H (.ref p) B.d ∧ BOk B ∧ k ∈ B.kinds ∧ k.gs[i]? = some g ∧ SqQ H S (st.map V.str) ∧
  ∀ r H', Same H H' → Rp K H' r (oldD st (B.clean st) (B.able st) g) → Q r H'
section
variable {P : Program} {w : World} {K : PySem.W.Frag} {mg : Str → Option Value} {base : Heap}
theorem scBearK : FnScope ["rulebook"] ["rulebook"] (defScope sBearK) := ⟨rfl, rfl, rfl, by decide +kernel, rfl, by decide +kernel, by decide +kernel⟩
theorem ok_bearK {f fr : Addr} {fd : FuncData} (F : Fun K "bearing_kinds" "bearing_kinds" sBearK f fd) (CG : Cal P w K mg base 7 "grown_kinds" ["rulebook", "is_right", "given"] (spGrown P w K mg base)) (CB : Cal P w K mg base 5 "is_bearing_by" ["rulebook", "ground", "found", "given"] (spBear K)) : FnOk P w K mg base CX0 8 f fd ["rulebook"] (spBearK K) := by
  obtain ⟨fb, fdb, hm, hb, hk, FB⟩ := CB.ex
  refine F.ok scBearK (fun vs H Q E h => ?_) (fun cdv A outer s H vs Q E hr h => ?_)
  · obtain ⟨p, B, rfl, _⟩ := h
    rfl
  · obtain ⟨p, B, rfl, rp, ok, kQ⟩ := h
    refine ⟨_, pss_one (ps_ret (pe_cal CG hr rfl (pa_cons (pv 0) (pa_cons (pe_glob (v := .ref fb) rfl hm rfl) (pa_cons pe_non pa_nil))))), ?_⟩
    have FR := ((FB.raw hb .nil).mono (by decide : 5 ≤ 6)).imp (sp' := spRight K H p .non B (metG B)) fun vs H' Q E h => by
      obtain ⟨v, L, g, ss, rfl, s, rg, okg, hL, kk⟩ := h
      exact ⟨p, L, v, .non, B, g, ss, rfl, rp.same s, ok, rg, okg, .inl (.inl hL), kk⟩
    exact ⟨_, rfl, p, fb, .non, B, metG B, rfl, rp, ok, hk, FR, fun t H' ss s nt ht e => kQ t H' s nt (by rw [e (metG_mono B)] at ht; exact ht)⟩
end
end Gy

namespace Gy
open PySem L2 PySem.Spec PyProof.Rows
/-! ### live_of, live_grounds, forced_needs, old_places, old_needs -/
theorem range_filter_succ (f : Nat → Bool) (j : Nat) : (List.range (j + 1)).filter f = (List.range j).filter f ++ (if f j = true then [j] else []) := by
  rw [List.range_succ, List.filter_append, List.filter_cons, List.filter_nil]
theorem filter_range_le (f : Nat → Bool) (j : Nat) : ((List.range j).filter f).length ≤ j := by
  have := List.length_filter_le f (List.range j)
  rw [List.length_range] at this
  exact this
section
variable {P : Program} {w : World} {K : PySem.W.Frag} {mg : Str → Option Value} {base : Heap}
theorem scLiveOf : FnScope ["rulebook", "grounds", "bearing", "found", "index", "ground", "need"] ["rulebook", "grounds", "bearing"] (defScope sLiveOf) := ⟨rfl, rfl, rfl, by decide +kernel, rfl, by decide +kernel, by decide +kernel⟩
theorem ok_liveOf {f : Addr} {fd : FuncData} (F : Fun K "live_of" "live_of" sLiveOf f fd) (ze : mg "enumerate" = none) (za : mg "all" = none) (CM : Cal P w K mg base 4 "can_be_met" ["rulebook", "need", "names"] (spMet K)) : FnOk P w K mg base CX0 5 f fd ["rulebook", "grounds", "bearing"] (spLiveOf K) := by
  refine F.ok scLiveOf (fun vs H Q E h => ?_) (fun cdv A outer s H vs Q E hr h => ?_)
  · obtain ⟨p, G, E', B, gs, gvs, be, rfl, _⟩ := h
    rfl
  · obtain ⟨p, G, E', B, gs, gvs, be, rfl, rp, ok, hG, rg, okg, l4, hE, kQ⟩ := h
    have nd := scLiveOf.nd
    refine ⟨_, pss_cons (ps_set (i := 3) nd rfl (Or.inl rfl) (pe_lst pa_nil))
      (pss_cons (ps_for PassesOwn.never rfl (pi_enumT (by rfl) ze (pa_cons (pv 1) pa_nil)) (pg_tup rfl (pgs_cons (pg_name (i := 4) nd rfl (Or.inl rfl)) (pgs_cons (pg_name (i := 5) nd rfl (Or.inl rfl)) pgs_nil)))
        (pss_one (ps_if (pt_val (pe_callB (cr_all rfl) (by rfl) za (by decide +kernel) (pa_cons (pe_lc (own := [("need", 6)]) (g := gName 6) (tt := tYes) (te := tCall (spMet K) [] E0 (tCons (tVar 0) (tCons (tVar 6) (tCons (tVar 2) tNil)))) rfl nd (pi_tup (pv 5))
            (blkOk_by (own := [("need", 6)]) (N := ["rulebook", "grounds", "bearing", "found", "index", "ground", "need"]) (sc := defScope sLiveOf) (by decide +kernel)) (fun _ _ _ _ _ => pg_name (i := 6) nd rfl (Or.inl rfl)) (fun _ _ _ _ _ => pts_nil) (fun _ _ _ _ _ => pe_cal CM hr rfl (pa_cons (pv 0) (pa_cons (pv 6) (pa_cons (pv 2) pa_nil))))) pa_nil)))
          (pss_one (ps_expr (by exact (pe_bm PySem.F.plainAttrs_list PySem.F.slot_list_append PySem.F.type_list_append mt_append (pv 3) (pa_cons (pv 4) pa_nil))))) pss_nil)))
      (pss_one (ps_ret (pv 3)))), ?_⟩
    have ln : gvs.length = gs.length := by rw [rg.len, List.length_map]
    refine ⟨Nat.zero_le _, fun L nL => ?_⟩
    have g0 : Grow K H (upd H L (.lst [])) L (([] : List Nat).map fun i : Nat => D.int i) := Grow.start nL
    try dsimp only
    show tSeq _ _ _ [some (.ref p), some (.ref G), some (.ref E'), some (.ref L), none, none, none] (upd H L (.lst []))
    refine ⟨_, rfl, G, gvs, rfl, SqT.of (g0.same _ _ hG), for_it (walk_enumT (xs := gvs)) (fun j σ' H' => (∃ x4 x5 x6, σ' = [some (.ref p), some (.ref G), some (.ref E'), some (.ref L), x4, x5, x6]) ∧ Grow K H H' L (((List.range j).filter fun i => metG B be (gs.getD i [])).map fun i : Nat => D.int i))
      ⟨⟨_, _, _, rfl⟩, g0⟩ (fun j σ' H' _ z => SqT.of (z.2.same _ _ hG)) ?_ ?_⟩
    · rintro j x σ' H' H3 hj ⟨⟨x4, x5, x6, rfl⟩, g'⟩ ⟨T, u, v, rfl, nT, rfl, hu', hv⟩
      cases hu'
      obtain ⟨gr, hgr, rx⟩ := at_of rg hv
      have gin := okg gr (List.mem_of_getElem? hgr)
      have s3 : Same H' (upd H' T (.tup [.int (j : Nat), v])) := same_new (Same.refl H') nT
      have hT : upd H' T (.tup [.int (j : Nat), v]) T = some (.tup [.int (j : Nat), v]) := upd_same
      generalize upd H' T (.tup [.int (j : Nat), v]) = H3 at s3 hT
      have g3 := g'.later (nat_flat _) s3
      refine ⟨T, _, rfl, SqT.of hT, rfl, _, _, rfl, _, _, rfl, rfl, ?_⟩
      have rx3 := rx.same g3.same
      obtain ⟨ga, nvs, rfl, hga, rn⟩ := gd_rp rx3
      have lnn : nvs.length = gr.length := by rw [rn.len, List.length_map]
      have l3 := gin.len
      refine ⟨_, rfl, ga, rfl, ⟨_, SqT.of hga⟩, fun Dx nD => ?_⟩
      refine lc_map (K := K) (walk_tup (xs := nvs)) ((gr.map (metN B be)).map D.bl) (by rw [List.length_map, List.length_map, lnn]) (bl_flat _) nD (by omega) (fun H' s => SqT.of (s _ _ hga)) ?_ ?_ gName_mono
      · rintro m d x H4 H5 Q' hm hd s4 ⟨rfl, hx⟩ kk
        obtain ⟨n, hn, rx⟩ := at_of rn hx
        have ed : d = .bl (metN B be n) := by
          rw [List.map_map, List.getElem?_map, hn] at hd
          exact (Option.some.inj hd).symm
        subst ed
        exact ⟨rfl, _, rfl, _, rfl, _, rfl, p, E', x, B, n, be, rfl, rp.same (g3.same.trans s4), ok, rx.same s4, gin.ok n (List.mem_of_getElem? hn), hE.same (g3.same.trans s4), kk _ _ (Same.refl _) (.bl _)⟩
      · intro H4 zs s4 hD r
        have e := rp_bls r
        subst e
        have g4 := g3.later (nat_flat _) s4
        refine ⟨Dx, gr.map (metN B be), rfl, SqL.of hD, _, rfl, ?_⟩
        rw [List.all_map]
        show if metG B be gr = true then _ else _
        refine ite2 (fun e => ?_) fun e => ?_
        · have rj : RpAll K H4 [.int (j : Nat)] (([j] : List Nat).map fun i : Nat => D.int i) := .cons (.int _) .nil
          obtain ⟨ys, hL, ly, g5⟩ := g4.more nL (nat_flat _) (nat_flat _) rj
          have ly' : ys.length ≤ j := by
            rw [ly, List.length_map]
            exact filter_range_le _ j
          refine ⟨_, rfl, .inl ⟨rfl, _, SqL.of hL⟩, _, rfl, L, ys, .int (j : Nat), rfl, rfl, hL, by rw [sizeLine_eq]; omega, ⟨_, _, _, rfl⟩, ?_⟩
          rw [range_filter_succ, getD_of hgr, if_pos e, List.map_append]
          exact g5
        · refine ⟨⟨_, _, _, rfl⟩, ?_⟩
          rw [range_filter_succ, getD_of hgr, if_neg e, List.append_nil]
          exact g4
    · rintro σ' H' ⟨⟨x4, x5, x6, rfl⟩, g'⟩
      obtain ⟨ys, hL, r⟩ := g'.ex
      have e := rp_nats r
      subst e
      rw [ln] at hL
      exact ⟨_, rfl, kQ L H' g'.same nL hL⟩
theorem scLiveG : FnScope ["rulebook", "name"] ["rulebook", "name"] (defScope sLiveG) := ⟨rfl, rfl, rfl, by decide +kernel, rfl, by decide +kernel, by decide +kernel⟩
theorem ok_liveG {f : Addr} {fd : FuncData} (F : Fun K "live_grounds" "live_grounds" sLiveG f fd) (CL : Cal P w K mg base 5 "live_of" ["rulebook", "grounds", "bearing"] (spLiveOf K)) (CG : Cal P w K mg base 4 "grounds_of" ["rulebook", "name"] (spGrounds K)) (CE : Cal P w K mg base 8 "bearing_kinds" ["rulebook"] (spBearK K)) : FnOk P w K mg base CX0 9 f fd ["rulebook", "name"] (spLiveG K) := by
  refine F.ok scLiveG (fun vs H Q E h => ?_) (fun cdv A outer s H vs Q E hr h => ?_)
  · obtain ⟨p, B, k, rfl, _⟩ := h
    rfl
  · obtain ⟨p, B, k, rfl, rp, ok, hk, kQ⟩ := h
    have hr5 := hr.mono (by decide : 5 ≤ 8)
    have hr4 := hr.mono (by decide : 4 ≤ 8)
    refine ⟨_, pss_one (ps_ret (pe_cal CL hr5 rfl (pa_cons (pv 0) (pa_cons (pe_cal CG hr4 rfl (pa_cons (pv 0) (pa_cons (pv 1) pa_nil))) (pa_cons (pe_cal CE hr rfl (pa_cons (pv 0) pa_nil)) pa_nil))))), ?_⟩
    refine ⟨_, rfl, _, rfl, _, rfl, p, B, k, rfl, rp, ok, hk, fun g gvs hg rg => ⟨_, rfl, p, B, rfl, rp, ok, fun t H1 s1 nt ht => ?_⟩⟩
    exact ⟨p, g, t, B, k.gs, gvs, B.bear, rfl, rp.same s1, ok, s1 _ _ hg, RpAll.same s1 rg, (ok.kinds k hk).gs, (ok.kinds k hk).len, .inl (.inr ht), fun l H' s nl hl => kQ l H' (s1.trans s) (s1.free nl) hl⟩
abbrev ttOld (K : PySem.W.Frag) : TT := tAnd (tTest (tOp rNe (tOp (rIxT K) (tVar 7) (tC (.int 0))) (tC (.str "row")))) (tTest (tOp (rIn K false) (tOp (rIxT K) (tVar 7) (tC (.int 1))) (tVar 3)))
theorem oldT_read {K : PySem.W.Frag} {σ : L2.St} {H : Hp} {x : V} {L : Addr} {n : Nd} {ss : List Str} {Q : Bool → Hp → Prop} (h7 : σ[7]? = some (some x)) (h2 : σ[3]? = some (some (.ref L))) (rn : Rp K H x n.d) (hL : SqQ H L (ss.map V.str)) (q : Q (oldN ss n) H) : ttOld K σ H Q := by
  obtain ⟨u, rfl, hu⟩ := nd_rp rn
  cases n with
  | row r t m =>
    refine ⟨_, h7, u, _, 0, .str "row", rfl, rfl, SqT.of hu, atI_nat (j := 0) rfl, rfl, _, rfl, ?_⟩
    have z : (!decide (V.str "row" = V.str "row")) = false := by decide +kernel
    rw [z]
    exact iteF q
  | knd n a t m =>
    refine ⟨_, h7, u, _, 0, .str "kind", rfl, rfl, SqT.of hu, atI_nat (j := 0) rfl, rfl, _, rfl, ?_⟩
    have z : (!decide (V.str "kind" = V.str "row")) = true := by decide +kernel
    rw [z]
    exact iteT ⟨_, h7, u, _, 1, .str n, rfl, rfl, SqT.of hu, atI_nat (j := 1) rfl, _, h2, in_read hL ⟨_, rfl, q⟩⟩
end
end Gy

namespace Gy
open PySem L2 PySem.Spec PyProof.Rows
/-! ### sweeps over the kinds, one by one, in turns -/
structure SwA (B : Bk) (right : List Str → List Nd → Bool) (i : Nat) (l : List Str) : Prop where
  nd : l.Nodup
  ls : ∀ x ∈ l, LS B right x
  st : ClosedR B right l ∨ i ≤ l.length
structure SwB (B : Bk) (right : List Str → List Nd → Bool) (i : Nat) (l0 l : List Str) (done : Kd → List Nd → Prop) : Prop where
  nd : l.Nodup
  ls : ∀ x ∈ l, LS B right x
  base : ClosedR B right l0 ∨ i ≤ l0.length
  st : (l = l0 ∧ ∀ k ∈ B.kinds, ∀ g ∈ k.gs, done k g → right l0 g = true → k.name ∈ l0) ∨ (¬ ClosedR B right l0 ∧ i + 1 ≤ l.length)
theorem SwA.start0 {B : Bk} {right : List Str → List Nd → Bool} : SwA B right 0 [] := ⟨List.nodup_nil, (fun x m => absurd m List.not_mem_nil), .inr (Nat.zero_le _)⟩
theorem SwA.start {B : Bk} {right : List Str → List Nd → Bool} {i : Nat} {l : List Str} (h : SwA B right i l) : SwB B right i l l (fun _ _ => False) := ⟨h.nd, h.ls, h.st, .inl ⟨rfl, fun _ _ _ _ z => z.elim⟩⟩
theorem SwB.weaken {B : Bk} {right : List Str → List Nd → Bool} {i : Nat} {l0 l : List Str} {done done' : Kd → List Nd → Prop} (h : SwB B right i l0 l done) (hd : ∀ k ∈ B.kinds, ∀ g ∈ k.gs, done' k g → right l0 g = true → done k g) : SwB B right i l0 l done' :=
  ⟨h.nd, h.ls, h.base, h.st.imp (fun ⟨e, z⟩ => ⟨e, fun k hk g hg d r => z k hk g hg (hd k hk g hg d r) r⟩) id⟩
theorem SwB.fin {B : Bk} {right : List Str → List Nd → Bool} {i : Nat} {l0 l : List Str} {done : Kd → List Nd → Prop} (h : SwB B right i l0 l done) (hd : ∀ k ∈ B.kinds, ∀ g ∈ k.gs, right l0 g = true → done k g) : SwA B right (i + 1) l := by
  refine ⟨h.nd, h.ls, ?_⟩
  rcases h.st with ⟨e, z⟩ | ⟨_, z⟩
  · subst e
    refine .inl fun k hk a => ?_
    obtain ⟨g, hg, r⟩ := List.any_eq_true.mp a
    exact z k hk g hg (hd k hk g hg r) r
  · exact .inr z
theorem not_closed {B : Bk} {right : List Str → List Nd → Bool} {l : List Str} {k : Kd} (hk : k ∈ B.kinds) (a : k.gs.any (right l) = true) (hn : k.name ∉ l) : ¬ ClosedR B right l := fun c => hn (c k hk a)
theorem SwB.stepK {B : Bk} {right : List Str → List Nd → Bool} {i : Nat} {l0 l : List Str} {done : Kd → List Nd → Prop} (h : SwB B right i l0 l done) {k : Kd} (hk : k ∈ B.kinds) (dn : Kd → List Nd → Prop) (q : Bool)
    (hq : q = true → k.name ∉ l ∧ k.gs.any (right l) = true) (hq' : q = false → ∀ k' ∈ B.kinds, ∀ g ∈ k'.gs, dn k' g → right l g = true → k'.name ∈ l ∨ done k' g) (hdn : q = true → True) :
    SwB B right i l0 (l ++ (if q = true then [k.name] else [])) (fun k' g => done k' g ∨ dn k' g) := by
  cases q with
  | true =>
    obtain ⟨hn, ha⟩ := hq rfl
    rw [if_pos rfl]
    refine ⟨List.nodup_append.mpr ⟨h.nd, List.nodup_cons.mpr ⟨List.not_mem_nil, List.nodup_nil⟩, fun a ha' b hb e => hn (by rw [← List.mem_singleton.mp hb, ← e]; exact ha')⟩, fun x hx => ?_, h.base, .inr ?_⟩
    · rcases List.mem_append.mp hx with z | z
      · exact h.ls x z
      · rw [List.mem_singleton.mp z]
        exact .mk k l hk h.ls ha
    · rw [List.length_append, List.length_singleton]
      rcases h.st with ⟨e, _⟩ | ⟨c, z⟩
      · subst e
        have c := not_closed hk ha hn
        exact ⟨c, by have := h.base.resolve_left c; omega⟩
      · exact ⟨c, by omega⟩
  | false =>
    rw [if_neg (by decide), List.append_nil]
    refine ⟨h.nd, h.ls, h.base, ?_⟩
    rcases h.st with ⟨e, z⟩ | z
    · subst e
      refine .inl ⟨rfl, fun k' hk' g hg d r => ?_⟩
      rcases d with d | d
      · exact z k' hk' g hg d r
      · rcases hq' rfl k' hk' g hg d r with y | y
        · exact y
        · exact z k' hk' g hg y r
    · exact .inr z
theorem SwA.all {B : Bk} {right : List Str → List Nd → Bool} {l : List Str} (ok : BOk B) (h : SwA B right B.kinds.length l) (m : MonoR right) : l.Perm (lsL B right) := by
  refine is_lsL ok m h.nd h.ls ?_
  rcases h.st with c | c
  · exact c
  · intro k hk _
    have hin : k.name ∈ B.names := List.mem_map_of_mem hk
    by_cases hm : k.name ∈ l
    · exact hm
    · have q := nodup_sub (l := k.name :: l) (m := B.names) (List.nodup_cons.mpr ⟨hm, h.nd⟩) fun x hx => by
        rcases List.mem_cons.mp hx with e | e
        · rw [e]; exact hin
        · exact (h.ls x e).isin
      unfold Bk.names at q
      rw [List.length_cons, List.length_map] at q
      omega
theorem SwA.len {B : Bk} {right : List Str → List Nd → Bool} {i : Nat} {l : List Str} (ok : BOk B) (h : SwA B right i l) : l.length ≤ 15 := Nat.le_trans (nodup_sub h.nd fun x hx => (h.ls x hx).isin) ok.names.len
theorem SwB.len {B : Bk} {right : List Str → List Nd → Bool} {i : Nat} {l0 l : List Str} {done : Kd → List Nd → Prop} (ok : BOk B) (h : SwB B right i l0 l done) : l.length ≤ 15 := Nat.le_trans (nodup_sub h.nd fun x hx => (h.ls x hx).isin) ok.names.len
/-- kinds before the j-th -/
def dnK (B : Bk) (j : Nat) : Kd → List Nd → Prop := fun k _ => ∃ j' < j, B.kinds[j']? = some k
/-! ### the dict of what a kind is -/
def Kd.tl (k : Kd) : D := .tup [.int k.keep, .int k.bar, .tup (k.gs.map gd)]
theorem Kd.rp_tl {K : PySem.W.Frag} {H : Hp} {v : V} {k : Kd} (r : Rp K H v k.tl) : ∃ a g gvs, v = .ref a ∧ H a = some (.tup [.int k.keep, .int k.bar, .ref g]) ∧ H g = some (.tup gvs) ∧ RpAll K H gvs (k.gs.map gd) := by
  unfold Kd.tl at r
  cases r with
  | tup e r =>
    cases r with
    | cons r1 r =>
      cases r with
      | cons r2 r =>
        cases r with
        | cons r3 r =>
          cases r
          cases r1
          cases r2
          cases r3 with
          | tup e4 r4 => exact ⟨_, _, _, rfl, e, e4, r4⟩
theorem gd_flat (g : List Nd) : (gd g).flat = true := by
  unfold gd
  simp only [D.flat]
  exact flat_map (fun n => by cases n <;> rfl) g
theorem tl_flat (k : Kd) : k.tl.flat = true := by
  unfold Kd.tl
  simp only [D.flat, D.flatAll, flat_map gd_flat, Bool.and_self]
def KDT (K : PySem.W.Frag) (H : Hp) (d : Addr) (B : Bk) : Prop := ∃ ts : List V, Rd H d (.dK (keyed B.names ts)) ∧ RpAll K H ts (B.kinds.map Kd.tl)
theorem KDT.get {K : PySem.W.Frag} {H : Hp} {d : Addr} {B : Bk} (h : KDT K H d B) (ok : BOk B) {k : Kd} (hk : k ∈ B.kinds) : ∃ v, DGet H d (.str k.name) (some v) ∧ Rp K H v k.tl := by
  obtain ⟨ts, hd, r⟩ := h
  obtain ⟨i, hi⟩ := List.getElem?_of_mem hk
  obtain ⟨v, hv, rv⟩ := at_to r hi
  have hn : B.names[i]? = some k.name := by
    unfold Bk.names
    rw [List.getElem?_map, hi]
    rfl
  have l : B.names.length = ts.length := by
    unfold Bk.names
    rw [r.len, List.length_map, List.length_map]
  have q := val_self (keyed_nodup l ok.names.nd) _ (List.mem_of_getElem? (keyed_at hn hv))
  refine ⟨v, ?_, rv⟩
  rw [← q]
  exact .inl ⟨_, Sum.inr k.name, hd, rfl, rfl⟩
theorem Rd.same {H H' : Hp} {d : Addr} {u : HO} (h : Rd H d u) (s : Same H H') : Rd H' d u := h.imp (s _ _) fun ⟨o, e⟩ => ⟨o, s _ _ e⟩
theorem KDT.same {K : PySem.W.Frag} {H H' : Hp} {d : Addr} {B : Bk} (h : KDT K H d B) (s : Same H H') : KDT K H' d B := let ⟨ts, h1, h2⟩ := h; ⟨ts, Rd.same h1 s, RpAll.same s h2⟩
theorem keyed_snoc : ∀ {ns : List Str} {ts : List V} {n : Str} {t : V}, ns.length = ts.length → keyed (ns ++ [n]) (ts ++ [t]) = keyed ns ts ++ [(Sum.inr n, t)]
  | [], [], _, _, _ => rfl
  | x :: ns, y :: ts, n, t, h => by
    show (Sum.inr x, y) :: keyed (ns ++ [n]) (ts ++ [t]) = _
    rw [keyed_snoc (by simpa using h)]
    rfl
  | [], _ :: _, _, _, h => by simp at h
  | _ :: _, [], _, _, h => by simp at h
abbrev sKindsOf : Stmt := top 45
def spKindsOf (K : PySem.W.Frag) : Sp := fun vs H Q _ => ∃ (p : Addr) (B : Bk), vs = [.ref p] ∧ Rp K H (.ref p) B.d ∧ BOk B ∧
  ∀ (d : Addr) (H' : Hp) (ts : List V), Same H H' → H d = none → H' d = some (.dK (keyed B.names ts)) → RpAll K H' ts (B.kinds.map Kd.tl) → Q (.ref d) H'
section
variable {P : Program} {w : World} {K : PySem.W.Frag} {mg : Str → Option Value} {base : Heap}
theorem scKindsOf : FnScope ["_law_rulebook_here", "_law_kind"] ["_law_rulebook_here"] (defScope sKindsOf) := ⟨rfl, rfl, rfl, by decide +kernel, rfl, by decide +kernel, by decide +kernel⟩
theorem ok_kindsOf {f : Addr} {fd : FuncData} (F : Fun K "_law_kinds_of" "_law_kinds_of" sKindsOf f fd) (zd : mg "dict" = none) : FnOk P w K mg base CX0 1 f fd ["_law_rulebook_here"] (spKindsOf K) := by
  refine F.ok scKindsOf (fun vs H Q E h => ?_) (fun cdv A outer s H vs Q E hr h => ?_)
  · obtain ⟨p, B, rfl, _⟩ := h
    rfl
  · obtain ⟨p, B, rfl, rp, ok, k⟩ := h
    have nd := scKindsOf.nd
    refine ⟨_, pss_one (ps_ret (pe_callTy (call_dictP rfl) (by rfl) zd (by decide +kernel) (pa_cons (pe_lc (own := [("_law_kind", 1)]) (g := gName 1) (tt := tYes) (te := tTup (tCons (tOp (rIxT K) (tVar 1) (tC (.int 0))) (tCons (tSl (rSlT K) (tVar 1) (tPart (tC (.int 1))) tNoPart) tNil))) rfl nd (pi_tup (pe_ix ix_tup (pv 0) pe_int (fun _ _ => rfl)))
      (blkOk_by (own := [("_law_kind", 1)]) (N := ["_law_rulebook_here", "_law_kind"]) (sc := defScope sKindsOf) (by decide +kernel)) (fun _ _ _ _ _ => pg_name (i := 1) nd rfl (Or.inl rfl)) (fun _ _ _ _ _ => pts_nil) (fun _ _ _ _ _ => pe_tup (pa_cons (pe_ix ix_tup (pv 1) pe_int (fun _ _ => rfl)) (pa_cons (pe_slice sl_tup (pv 1) (po_some pe_int) po_none) pa_nil)))) pa_nil))), ?_⟩
    obtain ⟨pr, pk, ks, hp, hpr, hpk, rks⟩ := Bk.rp_rows rp
    have lk : B.kinds.length = ks.length := by rw [rks.len, List.length_map]
    have lnm : B.names.length = ks.length := by unfold Bk.names; rw [rks.len, List.length_map, List.length_map]
    have lb := ok.len
    refine ⟨_, rfl, p, _, 1, .ref pk, rfl, rfl, SqT.of hp, atI_nat (j := 1) rfl, pk, rfl, ⟨_, SqT.of hpk⟩, fun Dx nD => ?_⟩
    refine lc_tup (xs := ks) (fun i H' => Same H H' ∧ ∃ (ps : List Addr) (ts : List V), H' Dx = some (.lst (ps.map V.ref)) ∧ ps.length = i ∧ ts.length = i ∧ RpAll K H' ts ((B.kinds.take i).map Kd.tl) ∧ Paired (fun p kv => H' p = some (.tup [kV kv.1, kv.2])) ps (keyed (B.names.take i) ts))
      ⟨same_put (Same.refl H) nD, [], [], upd_same, rfl, rfl, .nil, .nil⟩ (fun i H' _ z => SqT.of (z.1 _ _ hpk)) ?_ ?_
    · rintro i x H' hi ⟨s, ps, ts, hD, lp, lt, rt, pr⟩
      obtain ⟨kd, hk, rk⟩ := at_of rks hi
      obtain ⟨a, g, gvs, rfl, ha, hg, rg⟩ := Kd.rp rk
      have hn : B.names[i]? = some kd.name := by
        unfold Bk.names
        rw [List.getElem?_map, hk]
        rfl
      have il : i < 15 := by
        have := (List.getElem?_eq_some_iff.mp hk).1
        omega
      refine ⟨rfl, tyes_go ⟨_, rfl, a, _, 0, .str kd.name, rfl, rfl, SqT.of (s _ _ ha), atI_nat (j := 0) rfl, _, rfl, _, rfl, a, _, rfl, SqT.of (s _ _ ha), (by show ¬(HT.sIx 4 0 (some 1) = 0 ∧ HT.sIx 4 4 none = 4); decide), fun c nc => ⟨by show 2 ≤ sizeLine; decide, fun t nt => ?_⟩⟩⟩
      have ec : cutV [V.str kd.name, .int kd.keep, .int kd.bar, .ref g] (some 1) none = [.int kd.keep, .int kd.bar, .ref g] := rfl
      rw [ec] at nt ⊢
      have s0 : Same H' (upd H' c (.tup [.int kd.keep, .int kd.bar, .ref g])) := same_new (Same.refl H') nc
      have h0 : upd H' c (.tup [.int kd.keep, .int kd.bar, .ref g]) c = some (.tup [.int kd.keep, .int kd.bar, .ref g]) := upd_same
      generalize upd H' c (.tup [.int kd.keep, .int kd.bar, .ref g]) = H1 at s0 h0 nt
      have s1 : Same H1 (upd H1 t (.tup [.str kd.name, .ref c])) := same_new (Same.refl H1) nt
      have h1 : upd H1 t (.tup [.str kd.name, .ref c]) t = some (.tup [.str kd.name, .ref c]) := upd_same
      generalize upd H1 t (.tup [.str kd.name, .ref c]) = H2 at s1 h1
      have s01 := s0.trans s1
      have hD2 := s01 _ _ hD
      have T3 : Tups H2 (upd H2 Dx (.lst (ps.map V.ref ++ [.ref t]))) := Tups.put hD2
      have rc : Rp K H2 (.ref c) kd.tl := .tup (s1 _ _ h0) (.cons (.int _) (.cons (.int _) (.cons (.tup ((s.trans s01) _ _ hg) (RpAll.same (s.trans s01) rg)) .nil)))
      have e1 : (B.names.take (i + 1)) = B.names.take i ++ [kd.name] := by rw [List.take_succ, hn]; rfl
      have e2 : (B.kinds.take (i + 1)) = B.kinds.take i ++ [kd] := by rw [List.take_succ, hk]; rfl
      refine ⟨ps.map V.ref, hD2, by rw [List.length_map, lp, sizeLine_eq]; omega, same_put (s.trans s01) nD, ps ++ [t], ts ++ [.ref c], by rw [upd_same, List.map_append]; rfl, by rw [List.length_append, lp]; rfl, by rw [List.length_append, lt]; rfl, ?_, ?_⟩
      · rw [e2, List.map_append]
        exact (rt.tups ((Tups.same s01).trans T3) (flat_map tl_flat _)).append (.cons (Rp.tups T3 rc (tl_flat kd)) .nil)
      · rw [e1, keyed_snoc (by have := (List.getElem?_eq_some_iff.mp hn).1; rw [List.length_take, lt]; omega)]
        exact Paired.snoc (Paired.mapP pr fun p kv h => T3 _ _ (s01 _ _ h)) (T3 _ _ h1)
    · rintro H' ⟨s, ps, ts, hD, lp, lt, rt, pr⟩
      rw [← lk, List.take_length] at rt
      rw [← lnm, List.take_length] at pr
      have lz : B.names.length = ts.length := by omega
      refine ⟨Dx, ps, keyed B.names ts, rfl, SqL.of hD, Paired.mapP pr fun p kv h => SqT.of h, fun d nd' => ?_⟩
      rw [merge_nodup _ [] (by simpa using keyed_nodup lz ok.names.nd), List.nil_append]
      have s1 : Same H' (upd H' d (.dK (keyed B.names ts))) := same_new (Same.refl H') nd'
      exact k d _ ts (s.trans s1) (s.free nd') upd_same (RpAll.same s1 rt)
end
end Gy

namespace Gy
open PySem L2 PySem.Spec PyProof.Rows
/-! ### the law's own: is_met, bearing -/
theorem empty_dp {K : PySem.W.Frag} {H : Hp} {a : Addr} {ds : List D} {ys : List V} {n m : Nat} (h : H a = some (.lst ys)) (r : RpAll K H ys ds) (f : FineL ds n m) (hm : m + 1 ≤ 40) : Dp K H (.ref a) (.list (D.pyAll ds)) ∧ SeqAt.shaped (.list (D.pyAll ds)) = true ∧ PyData.eqv (.list (D.pyAll ds)) (.list []) = ds.isEmpty := by
  obtain ⟨f1, f2, _⟩ := f.lst.shaped hm
  refine ⟨(Rp.lst h r).dp f1, f2, ?_⟩
  cases ds with
  | nil => rfl
  | cons i is =>
    simp only [D.pyAll, PyData.eqv, PyData.eqvAll]
    rfl
def isK : Nd → Bool
  | .row _ _ _ => false
  | .knd _ _ _ _ => true
theorem nd_flat (n : Nd) : n.d.flat = true := by cases n <;> rfl
theorem met_empty {B : Bk} {ss : List Str} : ∀ g : List Nd, (((g.filter isK).filter fun n => !(metN B ss n)).map Nd.d).isEmpty = metG B ss g
  | [] => rfl
  | .row r t m :: g => met_empty g
  | .knd n a t m :: g => by
    have ih := met_empty (B := B) (ss := ss) g
    have e : (Nd.knd n a t m :: g).filter isK = .knd n a t m :: g.filter isK := rfl
    rw [e]
    show _ = (metN B ss (.knd n a t m) && metG B ss g)
    cases h : metN B ss (.knd n a t m) with
    | true =>
      rw [List.filter_cons, h, Bool.true_and]
      exact ih
    | false =>
      rw [List.filter_cons, h]
      rfl
theorem fine_nds {B : Bk} (ok : BOk B) {g : List Nd} (h : ∀ n ∈ g, n.ok B.rows B.names) : FineL (g.map Nd.d) (6 * g.length) 1 := by
  have q := FineL.of (ds := g.map Nd.d) (n := 6) (m := 1) fun d hd => by
    obtain ⟨x, hx, rfl⟩ := List.mem_map.mp hd
    exact Nd.fine (h x hx) ok.rows.mem ok.names.mem
  rw [List.length_map] at q
  exact q
abbrev sIsMet : Stmt := top 47
def spIsMet (K : PySem.W.Frag) : Sp := fun vs H Q _ => ∃ (d L : Addr) (v : V) (B : Bk) (g : List Nd) (ss : List Str), vs = [.ref d, .ref L, v] ∧ KDT K H d B ∧ BOk B ∧ SqQ H L (ss.map V.str) ∧ Rp K H v (gd g) ∧ GOk B.rows B.names 3 g ∧ ∀ H', Same H H' → Q (.bl (metG B ss g)) H'
theorem Ext.same {L : Addr} {H0 H H' : Hp} (s : Same H0 H) (e : Ext L H H') (n : H0 L = none) : Same H0 H' := fun a o h => e a o (fun z => by rw [z, n] at h; cases h) (s a o h)
section
variable {P : Program} {w : World} {K : PySem.W.Frag} {mg : Str → Option Value} {base : Heap}
theorem scIsMet : FnScope ["_law_kinds", "_law_found", "_law_ground_here", "_law_some_here", "_law_need_here"] ["_law_kinds", "_law_found", "_law_ground_here"] (defScope sIsMet) := ⟨rfl, rfl, rfl, by decide +kernel, rfl, by decide +kernel, by decide +kernel⟩
theorem ok_isMet {f : Addr} {fd : FuncData} (F : Fun K "_law_is_met" "_law_is_met" sIsMet f fd) : FnOk P w K mg base CX0 1 f fd ["_law_kinds", "_law_found", "_law_ground_here"] (spIsMet K) := by
  refine F.ok scIsMet (fun vs H Q E h => ?_) (fun cdv A outer s H vs Q E hr h => ?_)
  · obtain ⟨d, L, v, B, g, ss, rfl, _⟩ := h
    rfl
  · obtain ⟨d, L, v, B, g, ss, rfl, kd, ok, hL, rg, okg, kQ⟩ := h
    have nd := scIsMet.nd
    have hu := hr.units
    have hu0 := hu_of hr
    refine ⟨_, pss_cons (ps_setLc (i := 3) (own := [("_law_need_here", 4)]) (g := gName 4) (tt := tTest (tOp rEq (tOp (rIxT K) (tVar 4) (tC (.int 0))) (tC (.str "kind")))) (te := tVar 4) rfl nd rfl rfl (sw_true rfl rfl rfl (by decide +kernel)) (pi_tup (pv 2))
        (blkOk_by (own := [("_law_need_here", 4)]) (N := ["_law_kinds", "_law_found", "_law_ground_here", "_law_some_here", "_law_need_here"]) (sc := defScope sIsMet) (by decide +kernel)) (fun _ _ _ _ _ => pg_name (i := 4) nd rfl (Or.inl rfl))
        (fun _ _ _ _ _ => pts_one (pt_cmpR op_eq (pe_ix ix_tup (pv 4) pe_int (fun _ _ => rfl)) pe_str (nomark _))) (fun _ _ _ _ _ => pv 4))
      (pss_one (ps_ret (pe_cmpR (op_eqD hu) (pe_lc (own := [("_law_need_here", 4)]) (g := gName 4) (tt := tOr (tTest (tOp (rIn K true) (tOp (rIxT K) (tVar 4) (tC (.int 1))) (tVar 1))) (tTest (tOp (rI0 fun i j => .bl (decide (j ≤ i))) (tOp (rIxT K) (tVar 4) (tC (.int 2))) (tOp (rIxT K) (tDGet (tVar 0) (tOp (rIxT K) (tVar 4) (tC (.int 1)))) (tC (.int 0)))))) (te := tVar 4) rfl nd (pi_list (pv 3))
        (blkOk_by (own := [("_law_need_here", 4)]) (N := ["_law_kinds", "_law_found", "_law_ground_here", "_law_some_here", "_law_need_here"]) (sc := defScope sIsMet) (by decide +kernel)) (fun _ _ _ _ _ => pg_name (i := 4) nd rfl (Or.inl rfl))
        (fun _ _ _ _ _ => pts_one (PW.pt (pw_or (pt_cmpR op_notIn_seq (pe_ix ix_tup (pv 4) pe_int (fun _ _ => rfl)) (pv 1) (by rfl)) (pw_or1 (pt_cmpR op_ge (pe_ix ix_tup (pv 4) pe_int (fun _ _ => rfl)) (pe_ix ix_tup (pe_dget hu0 (pv 0) (pe_ix ix_tup (pv 4) pe_int (fun _ _ => rfl)) (fun _ _ => rfl)) pe_int (fun _ _ => rfl)) (nomark _)))))) (fun _ _ _ _ _ => pv 4)) (pe_lst pa_nil) (nomark _)))), ?_⟩
    obtain ⟨ga, nvs, rfl, hga, rn⟩ := gd_rp rg
    have ln : nvs.length = g.length := by rw [rn.len, List.length_map]
    have l3 := okg.len
    refine ⟨_, rfl, ga, rfl, ⟨_, SqT.of hga⟩, fun M nM => ?_⟩
    refine lc_filt (K := K) (walk_tup (xs := nvs)) g isK Nd.d ln.symm nd_flat nM (by omega) (fun H' s => SqT.of (s _ _ hga)) ?_ ?_
    · rintro j n x H4 H5 R Q' hj hn s4 ⟨rfl, hx⟩ kR kQ'
      obtain ⟨n', hn', rx⟩ := at_of rn hx
      have en : n = n' := by rw [hn] at hn'; exact Option.some.inj hn'
      subst en
      have rx4 := rx.same s4
      obtain ⟨u, rfl, hu⟩ := nd_rp rx4
      refine ⟨rfl, _, rfl, u, _, 0, .str n.word, rfl, rfl, SqT.of hu, atI_nat (j := 0) (vs0 n), rfl, _, rfl, ?_⟩
      rw [iskind]
      cases n with
      | row r t m => exact iteF (kR _ (Same.refl _) rfl)
      | knd r a t m => exact iteT ⟨_, rfl, kQ' _ _ (Same.refl _) rfl rx4⟩
    · intro H4 ys s4 hM rM
      try dsimp only
      show tRet _ _ [some (.ref d), some (.ref L), some (.ref ga), some (.ref M), none] H4
      have ly : ys.length = (g.filter isK).length := by rw [rM.len, List.length_map]
      have lle := List.length_filter_le isK g
      refine ⟨_, rfl, M, rfl, ⟨_, SqL.of hM⟩, fun M2 nM2 => ?_⟩
      refine lc_filt (K := K) (walk_list (xs := ys)) (g.filter isK) (fun n => !(metN B ss n)) Nd.d ly.symm nd_flat nM2 (by omega) (fun H' s => SqL.of (s _ _ hM)) ?_ ?_
      · rintro j n x H5 H6 R Q' hj hn s5 ⟨rfl, hx⟩ kR kQ'
        obtain ⟨n', hn', rx⟩ := at_of rM hx
        have en : n = n' := by rw [hn] at hn'; exact Option.some.inj hn'
        subst en
        have s45 := s4.trans s5
        have rx5 := rx.same s5
        obtain ⟨u, rfl, hu⟩ := nd_rp rx5
        have nin := List.mem_filter.mp (List.mem_of_getElem? hn)
        cases n with
        | row r t m => exact absurd nin.2 (by show ¬ (false = true); decide)
        | knd nm a t m =>
          have okn := okg.ok _ nin.1
          obtain ⟨k, hk, rfl⟩ := ok.kind okn.1
          refine ⟨rfl, _, rfl, u, _, 1, .str k.name, rfl, rfl, SqT.of hu, atI_nat (j := 1) rfl, _, rfl, in_read (hL.same s45) ⟨_, rfl, ?_⟩⟩
          have em : metN B ss (.knd k.name a t m) = (decide (k.name ∈ ss) && decide (a < k.keep)) := by
            show (decide (k.name ∈ ss) && decide (a < B.keepOf k.name)) = _
            rw [keepOf_at ok hk]
          rw [em] at kR kQ'
          show if (!decide (k.name ∈ ss)) = true then _ else _
          cases hin : decide (k.name ∈ ss) with
          | false =>
            rw [hin] at kR kQ'
            exact iteT (iteT ⟨_, rfl, kQ' _ _ (Same.refl _) (by rw [Bool.false_and]; rfl) rx5⟩)
          | true =>
            rw [hin, Bool.true_and] at kR kQ'
            obtain ⟨tv, htv, rtv⟩ := (kd.same s45).get ok hk
            obtain ⟨ta, tg, tgs, rfl, hta, htg, rtg⟩ := Kd.rp_tl rtv
            refine iteF ⟨_, rfl, u, _, 2, .int a, rfl, rfl, SqT.of hu, atI_nat (j := 2) rfl, _, rfl, _, rfl, u, _, 1, .str k.name, rfl, rfl, SqT.of hu, atI_nat (j := 1) rfl, d, .ref ta, rfl, htv, ta, _, 0, .int k.keep, rfl, rfl, SqT.of hta, atI_nat (j := 0) rfl, a, k.keep, rfl, rfl, _, rfl, ?_⟩
            by_cases hlt : a < k.keep
            · rw [decide_eq_false (by omega : ¬ k.keep ≤ a)]
              exact iteF (kR _ (Same.refl _) (by rw [decide_eq_true hlt]; rfl))
            · rw [decide_eq_true (by omega : k.keep ≤ a)]
              exact iteT ⟨_, rfl, kQ' _ _ (Same.refl _) (by rw [decide_eq_false hlt]; rfl) rx5⟩
      · intro H5 zs s5 hM2 rM2
        refine ⟨Nat.zero_le _, fun e ne => ?_⟩
        have s6 : Same H5 (upd H5 e (.lst [])) := same_new (Same.refl H5) ne
        have h6 : upd H5 e (.lst []) e = some (.lst []) := upd_same
        generalize upd H5 e (.lst []) = H6 at s6 h6
        obtain ⟨d1, d2, d3⟩ := empty_dp (s6 _ _ hM2) (RpAll.same s6 rM2) (fine_nds ok fun n hn => okg.ok n (List.mem_filter.mp (List.mem_filter.mp hn).1).1) (by decide)
        refine ⟨_, .list [], d1, .lst (SqL.of h6) .nil, d2, rfl, ?_⟩
        rw [d3, met_empty]
        exact kQ H6 ((s4.trans s5).trans s6)
end
end Gy

namespace Gy
open PySem L2 PySem.Spec PyProof.Rows
/-! ### the law's own: bearing -/
theorem SwB.nextK {B : Bk} {right : List Str → List Nd → Bool} {i j : Nat} {l0 l : List Str} {k : Kd} (h : SwB B right i l0 l (dnK B j)) (hk : B.kinds[j]? = some k) :
    SwB B right i l0 (l ++ (if (!decide (k.name ∈ l) && k.gs.any (right l)) = true then [k.name] else [])) (dnK B (j + 1)) := by
  refine (h.stepK (List.mem_of_getElem? hk) (fun k' _ => k' = k) _ (fun e => ?_) (fun e k' hk' g hg d r => ?_) fun _ => trivial).weaken ?_
  · simp only [Bool.and_eq_true, Bool.not_eq_true', decide_eq_false_iff_not] at e
    exact e
  · subst d
    simp only [Bool.and_eq_false_iff, Bool.not_eq_false', decide_eq_true_eq] at e
    rcases e with e | e
    · exact .inl e
    · exact absurd (List.any_eq_true.mpr ⟨g, hg, r⟩) (by rw [e]; decide)
  · rintro k' _ g _ ⟨j', hj', e⟩ _
    rcases Nat.lt_succ_iff_lt_or_eq.mp hj' with z | z
    · exact .inl ⟨j', z, e⟩
    · subst z
      rw [hk] at e
      exact .inr (Option.some.inj e).symm
theorem SwB.finK {B : Bk} {right : List Str → List Nd → Bool} {i : Nat} {l0 l : List Str} (h : SwB B right i l0 l (dnK B B.kinds.length)) : SwA B right (i + 1) l := h.fin fun k hk g _ _ => by
  obtain ⟨j, hj⟩ := List.getElem?_of_mem hk
  exact ⟨j, (List.getElem?_eq_some_iff.mp hj).1, hj⟩
theorem SwB.startK {B : Bk} {right : List Str → List Nd → Bool} {i : Nat} {l : List Str} (h : SwA B right i l) : SwB B right i l l (dnK B 0) := h.start.weaken fun k _ g _ ⟨j, hj, _⟩ _ => absurd hj (Nat.not_lt_zero j)
theorem filt_any (f : List Nd → Bool) : ∀ gs : List (List Nd), (!((gs.filter f).map fun _ => D.int 1).isEmpty) = gs.any f
  | [] => rfl
  | g :: gs => by
    have ih := filt_any f gs
    rw [List.filter_cons, List.any_cons]
    cases h : f g with
    | true => rfl
    | false =>
      rw [Bool.false_or, if_neg (by decide)]
      exact ih
theorem keyed_len {ns : List Str} {ts : List V} (h : ns.length = ts.length) : (keyed ns ts).length = ns.length := by
  unfold keyed
  rw [List.length_zipWith]
  omega
abbrev sBearing : Stmt := top 46
def spBearing (K : PySem.W.Frag) : Sp := fun vs H Q _ => ∃ (p : Addr) (B : Bk), vs = [.ref p] ∧ Rp K H (.ref p) B.d ∧ BOk B ∧
  ∀ (l : Addr) (H' : Hp) (ls : List Str), Same H H' → H l = none → H' l = some (.lst (ls.map V.str)) → ls.Perm B.bear → Q (.ref l) H'
section
variable {P : Program} {w : World} {K : PySem.W.Frag} {mg : Str → Option Value} {base : Heap}
theorem scBearing : FnScope ["_law_rulebook_here", "_law_kinds", "_law_found", "_law_turn", "_law_name", "_law_ground_here"] ["_law_rulebook_here"] (defScope sBearing) := ⟨rfl, rfl, rfl, by decide +kernel, rfl, by decide +kernel, by decide +kernel⟩
theorem ok_bearing {f : Addr} {fd : FuncData} (F : Fun K "_law_bearing" "_law_bearing" sBearing f fd) (zr : mg "range" = none) (zl : mg "len" = none) (zs : mg "sorted" = none) (CK : Cal P w K mg base 1 "_law_kinds_of" ["_law_rulebook_here"] (spKindsOf K)) (CM : Cal P w K mg base 1 "_law_is_met" ["_law_kinds", "_law_found", "_law_ground_here"] (spIsMet K)) : FnOk P w K mg base CX0 2 f fd ["_law_rulebook_here"] (spBearing K) := by
  refine F.ok scBearing (fun vs H Q E h => ?_) (fun cdv A outer s H vs Q E hr h => ?_)
  · obtain ⟨p, B, rfl, _⟩ := h
    rfl
  · obtain ⟨p, B, rfl, rp, ok, kQ⟩ := h
    have nd := scBearing.nd
    have hu := hr.units
    have hu0 := hu_of hr
    refine ⟨_, pss_cons (ps_asg (pe_tup (pa_cons (pe_cal CK hr rfl (pa_cons (pv 0) pa_nil)) (pa_cons (pe_lst pa_nil) pa_nil))) (pg_tup rfl (pgs_cons (pg_name (i := 1) nd rfl (Or.inr rfl)) (pgs_cons (pg_name (i := 2) nd rfl (Or.inr rfl)) pgs_nil))))
      (pss_cons (ps_for PassesOwn.never rfl (pi_range1 (by rfl) zr (pa_cons (pe_callB call_lenD (by rfl) zl PySem.boot_len (pa_cons (pv 1) pa_nil)) pa_nil)) (pg_name (i := 3) nd rfl (Or.inl rfl))
        (pss_one (ps_for PassesOwn.never rfl (pi_list (pe_callB (call_sortedD rfl) (by rfl) zs (by decide +kernel) (pa_cons (pv 1) pa_nil))) (pg_name (i := 4) nd rfl (Or.inl rfl))
          (pss_one (ps_if (PW.pt (pw_and (pt_cmpR op_notIn_seq (pv 4) (pv 2) (by rfl)) (pw_and1 (pt_cmpR (op_neD hu) (pe_lc (own := [("_law_ground_here", 5)]) (g := gName 5) (tt := tB (tCall (spIsMet K) [] E0 (tCons (tVar 1) (tCons (tVar 2) (tCons (tVar 5) tNil))))) (te := tC (.int 1)) rfl nd (pi_tup (pe_ix ix_tup (pe_dget hu0 (pv 1) (pv 4) (fun _ _ => rfl)) pe_int (fun _ _ => rfl)))
              (blkOk_by (own := [("_law_ground_here", 5)]) (N := ["_law_rulebook_here", "_law_kinds", "_law_found", "_law_turn", "_law_name", "_law_ground_here"]) (sc := defScope sBearing) (by decide +kernel)) (fun _ _ _ _ _ => pg_name (i := 5) nd rfl (Or.inl rfl)) (fun _ _ _ _ _ => pts_one (pt_val (pe_cal CM hr rfl (pa_cons (pv 1) (pa_cons (pv 2) (pa_cons (pv 5) pa_nil)))))) (fun _ _ _ _ _ => pe_int)) (pe_lst pa_nil) (nomark _)))))
            (pss_one (ps_expr (by exact (pe_bm PySem.F.plainAttrs_list PySem.F.slot_list_append PySem.F.type_list_append mt_append (pv 2) (pa_cons (pv 4) pa_nil))))) pss_nil)))))
      (pss_one (ps_ret (pv 2)))), ?_⟩
    have lb := ok.len
    refine ⟨_, rfl, p, B, rfl, rp, ok, fun d H1 ts s1 nd1 hd rts => ⟨Nat.zero_le _, fun L nL => ⟨by show 2 ≤ sizeLine; decide, fun t0 nt0 => ?_⟩⟩⟩
    have lnm : B.names.length = B.kinds.length := by unfold Bk.names; rw [List.length_map]
    have lts : B.names.length = ts.length := by rw [rts.len, List.length_map, lnm]
    have lkd : (keyed B.names ts).length = B.kinds.length := by rw [keyed_len lts, lnm]
    have kd : KDT K H1 d B := ⟨ts, .inl hd, rts⟩
    have s2 : Same H1 (upd H1 L (.lst [])) := same_new (Same.refl H1) nL
    have h2 : upd H1 L (.lst []) L = some (.lst (([] : List Str).map V.str)) := upd_same
    generalize upd H1 L (.lst []) = H2 at s2 h2 nt0
    have s2' : Same H2 (upd H2 t0 (.tup [.ref d, .ref L])) := same_new (Same.refl H2) nt0
    have h2' : upd H2 t0 (.tup [.ref d, .ref L]) t0 = some (.tup [.ref d, .ref L]) := upd_same
    generalize upd H2 t0 (.tup [.ref d, .ref L]) = H2' at s2' h2'
    have s2 := s2.trans s2'
    have h2 := s2' _ _ h2
    clear s2'
    refine ⟨t0, _, rfl, SqT.of h2', rfl, _, _, rfl, _, _, rfl, rfl, ?_⟩
    try dsimp only
    show tSeq _ _ _ [some (.ref p), some (.ref d), some (.ref L), none, none, none] H2'
    refine ⟨_, rfl, d, _, rfl, s2 _ _ hd, _, rfl, by omega, by omega, for_it (walk_range (lo := 0) (n := (((keyed B.names ts).length : Nat) : Int).toNat)) (fun i σ' H' => (∃ x3 x4 x5, σ' = [some (.ref p), some (.ref d), some (.ref L), x3, x4, x5]) ∧ Same H1 H' ∧ ∃ l, H' L = some (.lst (l.map V.str)) ∧ SwA B (metG B) i l)
      ⟨⟨_, _, _, rfl⟩, s2, [], h2, SwA.start0⟩ (fun _ _ _ _ _ => trivial) ?_ ?_⟩
    · rintro i x σ' H3' H3 hi ⟨⟨x3, x4, x5, rfl⟩, s3, l, hL, sw⟩ ⟨rfl, rfl⟩
      refine ⟨_, rfl, d, _, B.names, rfl, .inl (s3 _ _ hd), keyed_keys lts, by omega, fun ys W py sy nW => ?_⟩
      have ey : ys = B.names := sorted_one sy ok.names.asc py
      subst ey
      have WL : W ≠ L := fun z => by rw [z, hL] at nW; cases nW
      have s4 : Same H3 (upd H3 W (.lst (B.names.map V.str))) := same_new (Same.refl H3) nW
      have h4 : upd H3 W (.lst (B.names.map V.str)) W = some (.lst (B.names.map V.str)) := upd_same
      generalize upd H3 W (.lst (B.names.map V.str)) = H4 at s4 h4
      have s14 := s3.trans s4
      refine ⟨W, rfl, ⟨_, SqL.of h4⟩, for_list (xs := B.names.map V.str) (fun j σ' H' => (∃ x4 x5, σ' = [some (.ref p), some (.ref d), some (.ref L), some (.int (0 + (i : Int))), x4, x5]) ∧ Ext L H4 H' ∧ ∃ l', H' L = some (.lst (l'.map V.str)) ∧ SwB B (metG B) i l l' (dnK B j)) ⟨⟨_, _, rfl⟩, Ext.refl' L H4, l, s4 _ _ hL, SwB.startK sw⟩ (fun j σ' H' _ z => SqL.of (z.2.1 W _ WL h4)) ?_ ?_⟩
      · rintro j x σ' H5 hj ⟨⟨x4, x5, rfl⟩, e5, l', hL5, sw'⟩
        have s15 := Ext.same s14 e5 nL
        obtain ⟨nm, hnm, rfl⟩ : ∃ nm, B.names[j]? = some nm ∧ x = V.str nm := by
          rw [List.getElem?_map] at hj
          cases z : B.names[j]? with
          | none => rw [z] at hj; cases hj
          | some nm => rw [z] at hj; exact ⟨nm, rfl, (Option.some.inj hj).symm⟩
        obtain ⟨k, hkj, rfl⟩ : ∃ k, B.kinds[j]? = some k ∧ k.name = nm := by
          unfold Bk.names at hnm
          rw [List.getElem?_map] at hnm
          cases z : B.kinds[j]? with
          | none => rw [z] at hnm; cases hnm
          | some k => rw [z] at hnm; exact ⟨k, rfl, Option.some.inj hnm⟩
        have hk := List.mem_of_getElem? hkj
        have nx := sw'.nextK hkj
        have ll' := sw'.len ok
        refine ⟨_, rfl, _, rfl, in_read (neg := true) (.inl hL5) ⟨_, rfl, ?_⟩⟩
        show if (!decide (k.name ∈ l')) = true then _ else _
        refine ite2 (fun e1 => ?_) fun e1 => ?_
        · obtain ⟨tv, htv, rtv⟩ := (kd.same s15).get ok hk
          obtain ⟨ta, tg, tgs, rfl, hta, htg, rtg⟩ := Kd.rp_tl rtv
          have ltg : tgs.length = k.gs.length := by rw [rtg.len, List.length_map]
          have lg4 := (ok.kinds k hk).len
          refine ⟨_, rfl, _, rfl, d, .ref ta, rfl, htv, ta, _, 2, .ref tg, rfl, rfl, SqT.of hta, atI_nat (j := 2) rfl, tg, rfl, ⟨_, SqT.of htg⟩, fun Dx nD => ?_⟩
          refine lc_filt (K := K) (walk_tup (xs := tgs)) k.gs (metG B l') (fun _ => D.int 1) ltg.symm (fun _ => rfl) nD (by omega) (fun H' s => SqT.of (s _ _ htg)) ?_ ?_
          · rintro m gr x H6 H7 R Q' hm hgr s6 ⟨rfl, hx⟩ kR kQ'
            obtain ⟨gr', hgr', rx⟩ := at_of rtg hx
            have en : gr = gr' := by rw [hgr] at hgr'; exact Option.some.inj hgr'
            subst en
            refine ⟨rfl, _, rfl, _, rfl, _, rfl, d, L, x, B, gr, l', rfl, kd.same (s15.trans s6), ok, .inl (s6 _ _ hL5), rx.same s6, (ok.kinds k hk).gs gr (List.mem_of_getElem? hgr), fun H8 s8 => ⟨_, rfl, ite2 (fun e => ?_) fun e => ?_⟩⟩
            · exact kQ' _ _ s8 e (.int _)
            · exact kR _ s8 (by simpa using e)
          · intro H6 zs s6 hM r
            refine ⟨Nat.zero_le _, fun e ne => ?_⟩
            have s7 : Same H6 (upd H6 e (.lst [])) := same_new (Same.refl H6) ne
            have h7 : upd H6 e (.lst []) e = some (.lst []) := upd_same
            generalize upd H6 e (.lst []) = H7 at s7 h7
            have fl := FineL.of (ds := ((k.gs.filter (metG B l')).map fun _ => D.int 1)) (n := 1) (m := 0) fun d hd => by
              obtain ⟨x, _, rfl⟩ := List.mem_map.mp hd
              exact fine_int (by decide) (by decide)
            obtain ⟨d1, d2, d3⟩ := empty_dp (s7 _ _ hM) (RpAll.same s7 r) fl (by decide)
            have s57 := s6.trans s7
            have hL7 := s57 _ _ hL5
            have e7 : Ext L H4 H7 := e5.trans' fun a o _ h => s57 a o h
            refine ⟨_, .list [], d1, .lst (SqL.of h7) .nil, d2, rfl, ?_⟩
            rw [d3, filt_any]
            refine ⟨_, rfl, ite2 (fun e2 => ?_) fun e2 => ?_⟩
            · rw [e1, e2, Bool.and_self, if_pos rfl] at nx
              refine ⟨_, rfl, .inl ⟨rfl, _, SqL.of hL7⟩, _, rfl, L, _, .str k.name, rfl, rfl, hL7, by rw [List.length_map, sizeLine_eq]; omega, ⟨_, _, rfl⟩, e7.trans' (Ext.put (Ext.refl' L H7)), l' ++ [k.name], ?_, nx⟩
              rw [upd_same, List.map_append]
              rfl
            · have e2' : k.gs.any (metG B l') = false := by simpa using e2
              rw [e2', Bool.and_false, if_neg (by decide), List.append_nil] at nx
              exact ⟨⟨_, _, rfl⟩, e7, l', hL7, nx⟩
        · have e1' : (!decide (k.name ∈ l')) = false := by simpa using e1
          rw [e1', Bool.false_and, if_neg (by decide), List.append_nil] at nx
          exact ⟨⟨_, _, rfl⟩, e5, l', hL5, nx⟩
      · rintro σ' H5 ⟨⟨x4, x5, rfl⟩, e5, l', hL5, sw'⟩
        rw [List.length_map, lnm] at sw'
        exact ⟨⟨_, _, _, rfl⟩, Ext.same s14 e5 nL, l', hL5, sw'.finK⟩
    · rintro σ' H' ⟨⟨x3, x4, x5, rfl⟩, s, l, hL, sw⟩
      have ez : (((keyed B.names ts).length : Nat) : Int).toNat = B.kinds.length := by rw [lkd]; rfl
      rw [ez] at sw
      exact ⟨_, rfl, kQ L H' l (s1.trans s) (s1.free nL) hL (sw.all ok (metG_mono B))⟩
end
end Gy

namespace Gy
open PySem L2 PySem.Spec PyProof.Rows
/-! ### the law's own: live -/
theorem not_in_take {α : Type} {l : List α} {j : Nat} {x : α} (nd : l.Nodup) (h : l[j]? = some x) : x ∉ l.take j := by
  have e : l = l.take j ++ l.drop j := (List.take_append_drop j l).symm
  have hm : x ∈ l.drop j := by
    have : (l.drop j)[0]? = some x := by rw [List.getElem?_drop]; exact h
    exact List.mem_of_getElem? this
  rw [e, List.nodup_append] at nd
  exact fun hx => nd.2.2 x hx x hm rfl
/-- the dict of the live grounds' lists -/
def KL (H : Hp) (d : Addr) (B : Bk) : Prop := ∃ as : List Addr, Rd H d (.dK (keyed B.names (as.map V.ref))) ∧ as.length = B.kinds.length ∧ ∀ (i : Nat) (k : Kd) (a : Addr), B.kinds[i]? = some k → as[i]? = some a → H a = some (.lst ((liveL B B.bear k.gs).map fun i : Nat => V.int i))
theorem KL.same {H H' : Hp} {d : Addr} {B : Bk} (h : KL H d B) (s : Same H H') : KL H' d B := let ⟨as, h1, h2, h3⟩ := h; ⟨as, Rd.same h1 s, h2, fun i k a hk ha => s _ _ (h3 i k a hk ha)⟩
theorem KL.get {H : Hp} {d : Addr} {B : Bk} (h : KL H d B) (ok : BOk B) {k : Kd} (hk : k ∈ B.kinds) : ∃ a, DGet H d (.str k.name) (some (.ref a)) ∧ H a = some (.lst ((liveL B B.bear k.gs).map fun i : Nat => V.int i)) := by
  obtain ⟨as, hd, la, r⟩ := h
  obtain ⟨i, hi⟩ := List.getElem?_of_mem hk
  have il := (List.getElem?_eq_some_iff.mp hi).1
  have hn : B.names[i]? = some k.name := by
    unfold Bk.names
    rw [List.getElem?_map, hi]
    rfl
  have l : B.names.length = (as.map V.ref).length := by
    unfold Bk.names
    rw [List.length_map, List.length_map, la]
  have ha : as[i]? = some (as[i]'(by omega)) := List.getElem?_eq_getElem (by omega)
  have ha' : (as.map V.ref)[i]? = some (.ref (as[i]'(by omega))) := by rw [List.getElem?_map, ha]; rfl
  have q := val_self (keyed_nodup l ok.names.nd) _ (List.mem_of_getElem? (keyed_at hn ha'))
  refine ⟨_, ?_, r i k _ hi ha⟩
  rw [← q]
  exact .inl ⟨_, Sum.inr k.name, hd, rfl, rfl⟩
theorem name_at {B : Bk} {j : Nat} {x : V} (hj : (B.names.map V.str)[j]? = some x) : ∃ k, B.kinds[j]? = some k ∧ x = V.str k.name := by
  unfold Bk.names at hj
  rw [List.map_map, List.getElem?_map] at hj
  cases z : B.kinds[j]? with
  | none => rw [z] at hj; cases hj
  | some k => rw [z] at hj; exact ⟨k, rfl, (Option.some.inj hj).symm⟩
abbrev sLive : Stmt := top 48
def spLive (K : PySem.W.Frag) : Sp := fun vs H Q _ => ∃ (p : Addr) (B : Bk), vs = [.ref p] ∧ Rp K H (.ref p) B.d ∧ BOk B ∧
  ∀ (d : Addr) (H' : Hp) (as : List Addr), Same H H' → H d = none → H' d = some (.dK (keyed B.names (as.map V.ref))) → as.length = B.kinds.length → KL H' d B → Q (.ref d) H'
section
variable {P : Program} {w : World} {K : PySem.W.Frag} {mg : Str → Option Value} {base : Heap}
theorem scLive : FnScope ["_law_rulebook_here", "_law_kinds", "_law_bearing_here", "_law_found", "_law_name", "_law_grounds", "_law_k"] ["_law_rulebook_here"] (defScope sLive) := ⟨rfl, rfl, rfl, by decide +kernel, rfl, by decide +kernel, by decide +kernel⟩
theorem ok_live {f : Addr} {fd : FuncData} (F : Fun K "_law_live" "_law_live" sLive f fd) (zr : mg "range" = none) (zl : mg "len" = none) (zs : mg "sorted" = none) (CK : Cal P w K mg base 1 "_law_kinds_of" ["_law_rulebook_here"] (spKindsOf K)) (CM : Cal P w K mg base 1 "_law_is_met" ["_law_kinds", "_law_found", "_law_ground_here"] (spIsMet K)) (CB : Cal P w K mg base 2 "_law_bearing" ["_law_rulebook_here"] (spBearing K)) : FnOk P w K mg base CX0 3 f fd ["_law_rulebook_here"] (spLive K) := by
  refine F.ok scLive (fun vs H Q E h => ?_) (fun cdv A outer s H vs Q E hr h => ?_)
  · obtain ⟨p, B, rfl, _⟩ := h
    rfl
  · obtain ⟨p, B, rfl, rp, ok, kQ⟩ := h
    have nd := scLive.nd
    have hu := hr.units
    have hu0 := hu_of hr
    have hr1 := hr.mono (by decide : 1 ≤ 2)
    refine ⟨_, pss_cons (ps_asg (pe_tup (pa_cons (pe_cal CK hr1 rfl (pa_cons (pv 0) pa_nil)) (pa_cons (pe_cal CB hr rfl (pa_cons (pv 0) pa_nil)) pa_nil))) (pg_tup rfl (pgs_cons (pg_name (i := 1) nd rfl (Or.inr rfl)) (pgs_cons (pg_name (i := 2) nd rfl (Or.inr rfl)) pgs_nil))))
      (pss_cons (ps_set (i := 3) nd rfl (Or.inl rfl) pe_dnewK)
      (pss_cons (ps_for PassesOwn.never rfl (pi_list (pe_callB (call_sortedD rfl) (by rfl) zs (by decide +kernel) (pa_cons (pv 1) pa_nil))) (pg_name (i := 4) nd rfl (Or.inl rfl))
        (pss_cons (ps_set (i := 5) nd rfl (Or.inr rfl) (pe_ix ix_tup (pe_dget hu0 (pv 1) (pv 4) (fun _ _ => rfl)) pe_int (fun _ _ => rfl)))
        (pss_one (ps_asg (pe_lc (own := [("_law_k", 6)]) (g := gName 6) (tt := tB (tCall (spIsMet K) [] E0 (tCons (tVar 1) (tCons (tVar 2) (tCons (tOp (rIxT K) (tVar 5) (tVar 6)) tNil))))) (te := tVar 6) rfl nd (pi_range1 (by rfl) zr (pa_cons (pe_callB call_len_seq (by rfl) zl PySem.boot_len (pa_cons (pv 5) pa_nil)) pa_nil))
            (blkOk_by (own := [("_law_k", 6)]) (N := ["_law_rulebook_here", "_law_kinds", "_law_bearing_here", "_law_found", "_law_name", "_law_grounds", "_law_k"]) (sc := defScope sLive) (by decide +kernel)) (fun _ _ _ _ _ => pg_name (i := 6) nd rfl (Or.inl rfl)) (fun _ _ _ _ _ => pts_one (pt_val (pe_cal CM hr1 rfl (pa_cons (pv 1) (pa_cons (pv 2) (pa_cons (pe_ix ix_tup (pv 5) (pv 6) (fun _ _ => rfl)) pa_nil)))))) (fun _ _ _ _ _ => pv 6)) (pg_sub (pv 3) (pv 4) (set_dict hu0))))))
      (pss_one (ps_ret (pv 3))))), ?_⟩
    have lb := ok.len
    refine ⟨_, rfl, p, B, rfl, rp, ok, fun d H1 ts s1 nd1 hd rts => ⟨_, rfl, p, B, rfl, rp.same s1, ok, fun E' H2 ls s2 nE hE pE => ⟨by show 2 ≤ sizeLine; decide, fun t0 nt0 => ?_⟩⟩⟩
    have lnm : B.names.length = B.kinds.length := by unfold Bk.names; rw [List.length_map]
    have lts : B.names.length = ts.length := by rw [rts.len, List.length_map, lnm]
    have s3 : Same H2 (upd H2 t0 (.tup [.ref d, .ref E'])) := same_new (Same.refl H2) nt0
    have h3 : upd H2 t0 (.tup [.ref d, .ref E']) t0 = some (.tup [.ref d, .ref E']) := upd_same
    generalize upd H2 t0 (.tup [.ref d, .ref E']) = H3 at s3 h3
    have s23 := s2.trans s3
    have kd : KDT K H3 d B := ⟨ts, .inl (s23 _ _ hd), RpAll.same s23 rts⟩
    have hd3 := s23 _ _ hd
    have hE3 := s3 _ _ hE
    have emet : metG B ls = metG B B.bear := metG_same (SameL.perm pE)
    have sH3 := s1.trans s23
    refine ⟨t0, _, rfl, SqT.of h3, rfl, _, _, rfl, _, _, rfl, rfl, fun Fd nF => ?_⟩
    try dsimp only
    show tSeq _ _ _ [some (.ref p), some (.ref d), some (.ref E'), some (.ref Fd), none, none, none] _
    have s4 : Same H3 (upd H3 Fd (.dK [])) := same_new (Same.refl H3) nF
    have h4 : upd H3 Fd (.dK []) Fd = some (.dK []) := upd_same
    generalize upd H3 Fd (.dK []) = H4 at s4 h4
    refine ⟨_, rfl, d, _, B.names, rfl, .inl (s4 _ _ hd3), keyed_keys lts, by omega, fun ys W py sy nW => ?_⟩
    have ey : ys = B.names := sorted_one sy ok.names.asc py
    subst ey
    have WF : W ≠ Fd := fun z => by rw [z, h4] at nW; cases nW
    have s5 : Same H4 (upd H4 W (.lst (B.names.map V.str))) := same_new (Same.refl H4) nW
    have h5 : upd H4 W (.lst (B.names.map V.str)) W = some (.lst (B.names.map V.str)) := upd_same
    generalize upd H4 W (.lst (B.names.map V.str)) = H5 at s5 h5
    have s35 := s4.trans s5
    refine ⟨W, rfl, ⟨_, SqL.of h5⟩, for_list (xs := B.names.map V.str) (fun j σ' H' => (∃ x4 x5, σ' = [some (.ref p), some (.ref d), some (.ref E'), some (.ref Fd), x4, x5, none]) ∧ Ext Fd H5 H' ∧ ∃ as : List Addr, H' Fd = some (.dK (keyed (B.names.take j) (as.map V.ref))) ∧ as.length = j ∧ ∀ (i : Nat) (k : Kd) (a : Addr), B.kinds[i]? = some k → as[i]? = some a → H' a = some (.lst ((liveL B B.bear k.gs).map fun i : Nat => V.int i)))
      ⟨⟨_, _, rfl⟩, Ext.refl' Fd H5, [], s5 _ _ h4, rfl, fun i k a _ ha => by simp at ha⟩ (fun j σ' H' _ z => SqL.of (z.2.1 W _ WF h5)) ?_ ?_⟩
    · rintro j x σ' H6 hj ⟨⟨x4, x5, rfl⟩, e6, as, hF6, la, ra⟩
      have s36 := Ext.same s35 e6 nF
      obtain ⟨k, hkj, rfl⟩ := name_at hj
      have hk := List.mem_of_getElem? hkj
      have hnj : B.names[j]? = some k.name := by unfold Bk.names; rw [List.getElem?_map, hkj]; rfl
      have jl := (List.getElem?_eq_some_iff.mp hkj).1
      obtain ⟨tv, htv, rtv⟩ := (kd.same s36).get ok hk
      obtain ⟨ta, tg, tgs, rfl, hta, htg, rtg⟩ := Kd.rp_tl rtv
      have ltg : tgs.length = k.gs.length := by rw [rtg.len, List.length_map]
      have lg4 := (ok.kinds k hk).len
      refine ⟨_, rfl, _, rfl, d, .ref ta, rfl, htv, ta, _, 2, .ref tg, rfl, rfl, SqT.of hta, atI_nat (j := 2) rfl, ?_⟩
      try dsimp only
      show tAsg _ _ _ [some (.ref p), some (.ref d), some (.ref E'), some (.ref Fd), some (.str k.name), some (.ref tg), none] H6
      refine ⟨_, rfl, tg, tgs, rfl, .inr (SqT.of htg), _, rfl, by omega, by omega, fun Dx nD => ?_⟩
      refine lc_filt (K := K) (walk_range (lo := 0) (n := ((tgs.length : Nat) : Int).toNat)) (List.range tgs.length) (fun i => metG B B.bear (k.gs.getD i [])) (fun i : Nat => D.int i) (by rw [List.length_range]; rfl) (fun _ => rfl) nD (by show tgs.length ≤ 100000; omega) (fun _ _ => trivial) ?_ ?_
      · rintro m a x H8 H7 R Q' hm ha s7 ⟨rfl, rfl⟩ kR kQ'
        have ml : m < tgs.length := hm
        have ea : m = a := by
          rw [List.getElem?_range ml] at ha
          exact Option.some.inj ha
        subst ea
        obtain ⟨gr, hgr⟩ : ∃ gr, k.gs[m]? = some gr := ⟨_, List.getElem?_eq_getElem (by omega)⟩
        obtain ⟨x, hx, rx⟩ := at_to rtg hgr
        have s37 := s36.trans s7
        have ez : (0 : Int) + ((m : Nat) : Int) = (m : Nat) := Int.zero_add _
        rw [getD_of hgr] at kR kQ'
        refine ⟨rfl, _, rfl, _, rfl, _, rfl, _, rfl, tg, _, 0 + (m : Int), x, rfl, rfl, SqT.of (s7 _ _ htg), (by rw [ez]; exact atI_nat hx), d, E', x, B, gr, ls, rfl, kd.same s37, ok, .inl (s37 _ _ hE3), rx.same s7, (ok.kinds k hk).gs gr (List.mem_of_getElem? hgr), fun H8 s8 => ⟨_, rfl, ?_⟩⟩
        rw [emet]
        refine ite2 (fun e => ?_) fun e => ?_
        · exact ⟨_, rfl, kQ' _ _ s8 e (rp_z m)⟩
        · exact kR _ s8 (by simpa using e)
      · intro H7 zs s7 hD r
        have e := rp_nats r
        subst e
        rw [ltg] at hD
        have hF7 := s7 _ _ hF6
        have DF : Dx ≠ Fd := fun z => by rw [z, hF7] at hD; cases hD
        have lkk : (B.names.take j).length = (as.map V.ref).length := by rw [List.length_take, List.length_map, la]; omega
        have lk : (keyed (B.names.take j) (as.map V.ref)).length = j := by rw [keyed_len lkk, List.length_take]; omega
        refine ⟨_, rfl, _, rfl, Fd, _, rfl, DPut.k (k := Sum.inr k.name) hF7 (by rw [lk, sizeLine_eq]; omega), ⟨_, _, rfl⟩, (e6.trans' fun a o _ h => s7 a o h).trans' (Ext.put (Ext.refl' Fd H7)), as ++ [Dx], ?_, by rw [List.length_append, la]; rfl, ?_⟩
        · have hni : (Sum.inr k.name : Key) ∉ (keyed (B.names.take j) (as.map V.ref)).map (·.1) := by
            rw [keyed_keys lkk]
            intro hm
            obtain ⟨y, hy, ey⟩ := List.mem_map.mp hm
            cases ey
            exact not_in_take ok.names.nd hnj hy
          rw [upd_same, put_new hni, List.map_append, List.take_succ, hnj]
          show _ = some (HO.dK (keyed (B.names.take j ++ [k.name]) (as.map V.ref ++ [.ref Dx])))
          rw [keyed_snoc lkk]
        · intro i k' a hk' ha
          by_cases il : i < as.length
          · rw [List.getElem?_append_left il] at ha
            have q := s7 _ _ (ra i k' a hk' ha)
            rw [upd_ne (fun z => by rw [z, hF7] at q; cases q)]
            exact q
          · have ij : i = as.length := by
              have := (List.getElem?_eq_some_iff.mp ha).1
              rw [List.length_append, List.length_singleton] at this
              omega
            subst ij
            rw [List.getElem?_append_right (Nat.le_refl _), Nat.sub_self] at ha
            cases ha
            rw [la, hkj] at hk'
            cases hk'
            rw [upd_ne DF]
            exact hD
    · rintro σ' H6 ⟨⟨x4, x5, rfl⟩, e6, as, hF6, la, ra⟩
      rw [List.length_map] at hF6 la
      rw [List.take_length] at hF6
      refine ⟨_, rfl, kQ Fd H6 as (sH3.trans (Ext.same s35 e6 nF)) (sH3.free nF) hF6 (by rw [la, lnm]) ⟨as, .inl hF6, by rw [la, lnm], ra⟩⟩
end
end Gy

namespace Gy
open PySem L2 PySem.Spec PyProof.Rows
/-! ### sweeps ground by ground -/
def dnG (B : Bk) (j : Nat) (kd : Kd) (is : List Nat) : Kd → List Nd → Prop := fun k g => dnK B j k g ∨ (k = kd ∧ ∃ t ∈ is, kd.gs[t]? = some g)
theorem SwB.startG {B : Bk} {right : List Str → List Nd → Bool} {i j : Nat} {l0 l : List Str} {kd : Kd} (h : SwB B right i l0 l (dnK B j)) : SwB B right i l0 l (dnG B j kd []) := h.weaken fun k _ g _ d _ => by
  rcases d with d | ⟨_, t, ht, _⟩
  · exact d
  · cases ht
theorem SwB.nextG {B : Bk} {right : List Str → List Nd → Bool} {i j t : Nat} {l0 l : List Str} {kd : Kd} {g : List Nd} {is : List Nat} (h : SwB B right i l0 l (dnG B j kd is)) (hk : kd ∈ B.kinds) (hg : kd.gs[t]? = some g) :
    SwB B right i l0 (l ++ (if (right l g && !decide (kd.name ∈ l)) = true then [kd.name] else [])) (dnG B j kd (is ++ [t])) := by
  refine (h.stepK hk (fun k' g' => k' = kd ∧ g' = g) _ (fun e => ?_) (fun e k' hk' g' hg' d r => ?_) fun _ => trivial).weaken ?_
  · simp only [Bool.and_eq_true, Bool.not_eq_true', decide_eq_false_iff_not] at e
    exact ⟨e.2, List.any_eq_true.mpr ⟨g, List.mem_of_getElem? hg, e.1⟩⟩
  · obtain ⟨rfl, rfl⟩ := d
    simp only [Bool.and_eq_false_iff, Bool.not_eq_false', decide_eq_true_eq] at e
    rcases e with e | e
    · rw [e] at r
      cases r
    · exact .inl e
  · rintro k' _ g' _ d _
    rcases d with d | ⟨rfl, t', ht', hg'⟩
    · exact .inl (.inl d)
    · rcases List.mem_append.mp ht' with z | z
      · exact .inl (.inr ⟨rfl, t', z, hg'⟩)
      · rw [List.mem_singleton.mp z, hg] at hg'
        exact .inr ⟨rfl, (Option.some.inj hg').symm⟩
theorem live_mem {B : Bk} {be : List Str} {gs : List (List Nd)} {t : Nat} (h : t ∈ liveL B be gs) : ∃ g, gs[t]? = some g ∧ metG B be g = true := by
  unfold liveL at h
  obtain ⟨h1, h2⟩ := List.mem_filter.mp h
  have tl := List.mem_range.mp h1
  have e := List.getElem?_eq_getElem tl
  rw [getD_of e] at h2
  exact ⟨_, e, h2⟩
theorem mem_live {B : Bk} {be : List Str} {gs : List (List Nd)} {t : Nat} {g : List Nd} (h : gs[t]? = some g) (m : metG B be g = true) : t ∈ liveL B be gs := by
  unfold liveL
  refine List.mem_filter.mpr ⟨List.mem_range.mpr (List.getElem?_eq_some_iff.mp h).1, ?_⟩
  rw [getD_of h]
  exact m
theorem SwB.finG {B : Bk} {right : List Str → List Nd → Bool} {i j : Nat} {l0 l be : List Str} {kd : Kd} (h : SwB B right i l0 l (dnG B j kd (liveL B be kd.gs))) (hk : B.kinds[j]? = some kd) (hm : ∀ g, right l0 g = true → metG B be g = true) : SwB B right i l0 l (dnK B (j + 1)) :=
  h.weaken fun k _ g hg ⟨j', hj', e⟩ r => by
    rcases Nat.lt_succ_iff_lt_or_eq.mp hj' with z | z
    · exact .inl ⟨j', z, e⟩
    · subst z
      rw [hk] at e
      cases e
      obtain ⟨t, ht⟩ := List.getElem?_of_mem hg
      exact .inr ⟨rfl, t, mem_live ht (hm g r), ht⟩
theorem live_len (B : Bk) (be : List Str) (gs : List (List Nd)) : (liveL B be gs).length ≤ gs.length := filter_range_le _ _
theorem nat_at {is : List Nat} {m : Nat} {x : V} (h : (is.map fun i : Nat => V.int i)[m]? = some x) : ∃ t, is[m]? = some t ∧ x = .int t := by
  rw [List.getElem?_map] at h
  cases z : is[m]? with
  | none => rw [z] at h; cases h
  | some t => rw [z] at h; exact ⟨t, rfl, (Option.some.inj h).symm⟩
theorem take_snoc {α : Type} {l : List α} {m : Nat} {x : α} (h : l[m]? = some x) : l.take (m + 1) = l.take m ++ [x] := by
  rw [List.take_succ, h]
  rfl
theorem rep1 {v : V} (q : Bool) : (List.replicate ((if q = true then (1 : Int) else 0).toNat) [v]).flatten = if q = true then [v] else [] := by cases q <;> rfl
theorem filt_all (f : Nd → Bool) : ∀ g : List Nd, (g.filter fun n => !(f n)).isEmpty = g.all f
  | [] => rfl
  | n :: g => by
    have ih := filt_all f g
    rw [List.filter_cons, List.all_cons]
    cases h : f n with
    | true => rw [if_neg (by decide), Bool.true_and]; exact ih
    | false => rfl
theorem filt_none (f : Nd → Bool) : ∀ g : List Nd, (g.filter f).isEmpty = !(g.any f)
  | [] => rfl
  | n :: g => by
    have ih := filt_none f g
    rw [List.filter_cons, List.any_cons]
    cases h : f n with
    | false => rw [if_neg (by decide), Bool.false_or]; exact ih
    | true => rfl
theorem isEmpty_map {α β : Type} (f : α → β) : ∀ l : List α, (l.map f).isEmpty = l.isEmpty
  | [] => rfl
  | _ :: _ => rfl
theorem isEmpty_app {α : Type} : ∀ l m : List α, (l ++ m).isEmpty = (l.isEmpty && m.isEmpty)
  | [], _ => rfl
  | _ :: _, _ => rfl
/-! ### the law's own: forced -/
def spForced2 (K : PySem.W.Frag) : Sp := fun vs H Q _ => ∃ (v : V) (S C : Addr) (g : List Nd) (st cl : List Str), vs = [.ref S, .ref C, v] ∧ Rp K H v (gd g) ∧ g.length ≤ 3 ∧ SqQ H S (st.map V.str) ∧ SqQ H C (cl.map V.str) ∧
  ∀ l H', Same H H' → H l = none → H' l = some (.lst ((places (forcedN st cl) g).map fun i : Nat => V.int i)) → Q (.ref l) H'
abbrev teFree (K : PySem.W.Frag) : TE := tIf (tTest (tOp rEq (tOp (rIxT K) (tOp (rIxT K) (tVar 2) (tVar 4)) (tC (.int 0))) (tC (.str "row")))) (tOp (rIn K true) (tOp (rIxT K) (tOp (rIxT K) (tVar 2) (tVar 4)) (tC (.int 1))) (tVar 0)) (tOp (rIn K false) (tOp (rIxT K) (tOp (rIxT K) (tVar 2) (tVar 4)) (tC (.int 1))) (tVar 1))
theorem free_read {K : PySem.W.Frag} {σ : L2.St} {H : Hp} {Q : VK} {ga S C : Addr} {nvs : List V} {j : Int} {v : V} {n : Nd} {st cl : List Str} (h2 : σ[2]? = some (some (.ref ga))) (h4 : σ[4]? = some (some (.int j))) (h0 : σ[0]? = some (some (.ref S))) (h1 : σ[1]? = some (some (.ref C)))
    (hga : H ga = some (.tup nvs)) (hv : atI nvs j = some v) (rn : Rp K H v n.d) (hS : SqQ H S (st.map V.str)) (hC : SqQ H C (cl.map V.str)) (q : Q (.bl (!(forcedN st cl n))) H) : teFree K σ H Q := by
  obtain ⟨u, rfl, hu⟩ := nd_rp rn
  refine ⟨_, h2, _, h4, ga, _, _, _, rfl, rfl, SqT.of hga, hv, u, _, 0, .str n.word, rfl, rfl, SqT.of hu, atI_nat (j := 0) (vs0 n), rfl, _, rfl, ?_⟩
  rw [isrow]
  cases n with
  | row r t m => exact iteT ⟨_, h2, _, h4, ga, _, _, _, rfl, rfl, SqT.of hga, hv, u, _, 1, .str r, rfl, rfl, SqT.of hu, atI_nat (j := 1) rfl, _, h0, in_read (neg := true) hS q⟩
  | knd r a t m =>
    have e : (!(forcedN st cl (.knd r a t m))) = decide (r ∈ cl) := Bool.not_not _
    rw [e] at q
    exact iteF ⟨_, h2, _, h4, ga, _, _, _, rfl, rfl, SqT.of hga, hv, u, _, 1, .str r, rfl, rfl, SqT.of hu, atI_nat (j := 1) rfl, _, h1, in_read (neg := false) hC q⟩
section
variable {P : Program} {w : World} {K : PySem.W.Frag} {mg : Str → Option Value} {base : Heap}
end
end Gy

namespace Gy
open PySem L2 PySem.Spec PyProof.Rows
/-! ### trees of grounds, plain -/
mutual
inductive Tr where
  | mk (n : Str) (i : Nat) (ps : Trs)
inductive Trs where
  | nil
  | row (r : Trs)
  | kid (t : Tr) (r : Trs)
end
mutual
def Tr.d : Tr → D
  | .mk n i ps => .tup [.str n, .int (i : Nat), .tup ps.ds]
def Trs.ds : Trs → List D
  | .nil => []
  | .row r => .non :: r.ds
  | .kid t r => t.d :: r.ds
end
mutual
def Tr.lev : Tr → Nat
  | .mk _ _ ps => 1 + ps.lev
def Trs.lev : Trs → Nat
  | .nil => 0
  | .row r => r.lev
  | .kid t r => max t.lev r.lev
end
mutual
def Tr.size : Tr → Nat
  | .mk _ _ ps => 1 + ps.size
def Trs.size : Trs → Nat
  | .nil => 0
  | .row r => r.size
  | .kid t r => t.size + r.size
end
def Bk.gAt (B : Bk) (n : Str) (i : Nat) : List Nd := match B.kinds.find? fun k => decide (k.name = n) with
  | some k => k.gs.getD i []
  | none => []
mutual
def Tr.rows (B : Bk) : Tr → List Str
  | .mk n i ps => ps.rows B (B.gAt n i)
def Trs.rows (B : Bk) : Trs → List Nd → List Str
  | .nil, _ => []
  | .row r, g => (g.take 1).map Nd.nm ++ r.rows B g.tail
  | .kid t r, g => t.rows B ++ r.rows B g.tail
end
mutual
inductive IsTr (B : Bk) : Str → Tr → Prop
  | mk {k : Kd} {i : Nat} {g : List Nd} {ps : Trs} : k ∈ B.kinds → k.gs[i]? = some g → metG B B.bear g = true → IsTrs B g ps → IsTr B k.name (.mk k.name i ps)
inductive IsTrs (B : Bk) : List Nd → Trs → Prop
  | nil : IsTrs B [] .nil
  | row {r : Str} {t m : Int} {g : List Nd} {ps : Trs} : IsTrs B g ps → IsTrs B (.row r t m :: g) (.row ps)
  | kid {n : Str} {a t m : Int} {g : List Nd} {T : Tr} {ps : Trs} : IsTr B n T → IsTrs B g ps → IsTrs B (.knd n a t m :: g) (.kid T ps)
end
theorem find_kind {B : Bk} (ok : BOk B) {k : Kd} (hk : k ∈ B.kinds) : B.kinds.find? (fun k' => decide (k'.name = k.name)) = some k := by
  have : ∀ {l : List Kd}, (l.map Kd.name).Nodup → k ∈ l → l.find? (fun k' => decide (k'.name = k.name)) = some k := by
    intro l
    induction l with
    | nil => intro _ h; cases h
    | cons x l ih =>
      intro nd h
      rw [List.map_cons, List.nodup_cons] at nd
      rw [List.find?_cons]
      by_cases e : x.name = k.name
      · rw [decide_eq_true e]
        rcases List.mem_cons.mp h with z | z
        · rw [z]
        · exact absurd (e ▸ List.mem_map_of_mem z) nd.1
      · rw [decide_eq_false e]
        rcases List.mem_cons.mp h with z | z
        · exact absurd (by rw [z]) e
        · exact ih nd.2 z
  exact this ok.names.nd hk
theorem gAt_of {B : Bk} (ok : BOk B) {k : Kd} (hk : k ∈ B.kinds) {i : Nat} {g : List Nd} (hg : k.gs[i]? = some g) : B.gAt k.name i = g := by
  unfold Bk.gAt
  rw [find_kind ok hk]
  exact getD_of hg
mutual
theorem Tr.flat : ∀ t : Tr, t.d.flat = true
  | .mk n i ps => by simp only [Tr.d, D.flat, D.flatAll, ps.flat, Bool.and_self]
theorem Trs.flat : ∀ ps : Trs, D.flatAll ps.ds = true
  | .nil => rfl
  | .row r => by simp only [Trs.ds, D.flatAll, D.flat, r.flat, Bool.and_self]
  | .kid t r => by simp only [Trs.ds, D.flatAll, t.flat, r.flat, Bool.and_self]
end
mutual
theorem Tr.d_inj : ∀ {t u : Tr}, t.d = u.d → t = u
  | .mk n i ps, .mk m j qs, h => by
    simp only [Tr.d, D.tup.injEq, List.cons.injEq, D.str.injEq, D.int.injEq, and_true] at h
    obtain ⟨h1, h2, h3⟩ := h
    have e : i = j := by omega
    rw [h1, e, Trs.ds_inj h3]
theorem Trs.ds_inj : ∀ {t u : Trs}, t.ds = u.ds → t = u
  | .nil, .nil, _ => rfl
  | .row r, .row s, h => by
    simp only [Trs.ds, List.cons.injEq, true_and] at h
    rw [Trs.ds_inj h]
  | .kid t r, .kid u s, h => by
    simp only [Trs.ds, List.cons.injEq] at h
    rw [Tr.d_inj h.1, Trs.ds_inj h.2]
  | .nil, .row _, h => by simp [Trs.ds] at h
  | .nil, .kid _ _, h => by simp [Trs.ds] at h
  | .row _, .nil, h => by simp [Trs.ds] at h
  | .kid _ _, .nil, h => by simp [Trs.ds] at h
  | .row _, .kid (.mk _ _ _) _, h => by simp [Trs.ds, Tr.d] at h
  | .kid (.mk _ _ _) _, .row _, h => by simp [Trs.ds, Tr.d] at h
end
/-! ### sweeps -/
abbrev TM := Str → Option Tr
def dom (B : Bk) (f : TM) : List Str := B.names.filter fun n => (f n).isSome
def partsBy (f : TM) : List Nd → Trs
  | [] => .nil
  | .row _ _ _ :: g => .row (partsBy f g)
  | .knd n _ _ _ :: g => match f n with
    | some t => .kid t (partsBy f g)
    | none => .row (partsBy f g)
/-- the first place at which an old tree stands -/
def partsE (f e : TM) : List Nd → Trs
  | [] => .nil
  | .row _ _ _ :: g => .row (partsE f e g)
  | .knd n _ _ _ :: g => match e n with
    | some t => .kid t (partsBy f g)
    | none => match f n with
      | some t => .kid t (partsE f e g)
      | none => .row (partsE f e g)
def firstG (ok : List Nd → Bool) (gs : List (List Nd)) : Option Nat := (List.range gs.length).find? fun i => ok (gs.getD i [])
theorem firstG_some {ok : List Nd → Bool} {gs : List (List Nd)} {i : Nat} (h : firstG ok gs = some i) : ∃ g, gs[i]? = some g ∧ ok g = true := by
  have h1 := List.find?_some h
  have h2 := List.mem_range.mp (List.mem_of_find?_eq_some h)
  exact ⟨gs[i], List.getElem?_eq_getElem h2, by rw [List.getD_eq_getElem?_getD, List.getElem?_eq_getElem h2] at h1; exact h1⟩
theorem firstG_isSome {ok : List Nd → Bool} {gs : List (List Nd)} {g : List Nd} (h : g ∈ gs) (hk : ok g = true) : (firstG ok gs).isSome = true := by
  obtain ⟨i, hi⟩ := List.getElem?_of_mem h
  unfold firstG
  rw [List.find?_isSome]
  exact ⟨i, List.mem_range.mpr (List.getElem?_eq_some_iff.mp hi).1, by rw [getD_of hi]; exact hk⟩
/-- what a sweep adds of a kind -/
def newT (ok : List Nd → Bool) (mk : List Nd → Trs) (f : TM) (k : Kd) : Option Tr := if (f k.name).isSome then none else (firstG ok k.gs).map fun i => .mk k.name i (mk (k.gs.getD i []))
def sweepT (B : Bk) (ok : List Nd → Bool) (mk : List Nd → Trs) (f : TM) : TM := fun n => match f n with
  | some t => some t
  | none => match B.kinds.find? fun k => decide (k.name = n) with
    | some k => newT ok mk f k
    | none => none
def itT (B : Bk) (right : List Str → List Nd → Bool) : Nat → TM
  | 0 => fun _ => none
  | s + 1 => sweepT B (right (dom B (itT B right s))) (partsBy (itT B right s)) (itT B right s)
def okO (B : Bk) (st : List Str) (f e : TM) (g : List Nd) : Bool := metG B (dom B f) g && (g.any (onS st) || g.any (oldN (dom B e)))
def partsO (st : List Str) (f e : TM) (g : List Nd) : Trs := if g.any (onS st) = true then partsBy f g else partsE f e g
def itO (B : Bk) (st : List Str) : Nat → TM
  | 0 => fun _ => none
  | s + 1 => sweepT B (okO B st (itT B (metG B) s) (itO B st s)) (partsO st (itT B (metG B) s) (itO B st s)) (itO B st s)
theorem sweep_some {B : Bk} {ok : List Nd → Bool} {mk : List Nd → Trs} {f : TM} {n : Str} {t : Tr} (h : f n = some t) : sweepT B ok mk f n = some t := by
  unfold sweepT
  rw [h]
/-- where a tree of a sweep comes from -/
theorem sweep_from {B : Bk} {okB : BOk B} {ok : List Nd → Bool} {mk : List Nd → Trs} {f : TM} {n : Str} {t : Tr} (h : sweepT B ok mk f n = some t) : f n = some t ∨ (f n = none ∧ ∃ k ∈ B.kinds, k.name = n ∧ ∃ i g, k.gs[i]? = some g ∧ ok g = true ∧ t = .mk k.name i (mk g)) := by
  unfold sweepT at h
  cases e : f n with
  | some u => rw [e] at h; exact .inl h
  | none =>
    rw [e] at h
    refine .inr ⟨rfl, ?_⟩
    dsimp only at h
    cases z : B.kinds.find? fun k => decide (k.name = n) with
    | none => rw [z] at h; cases h
    | some k =>
      rw [z] at h
      have hn : k.name = n := by
        have q := List.find?_some z
        exact of_decide_eq_true q
      have hk := List.mem_of_find?_eq_some z
      refine ⟨k, hk, hn, ?_⟩
      dsimp only at h
      unfold newT at h
      rw [hn, e] at h
      rw [if_neg (by decide)] at h
      cases q : firstG ok k.gs with
      | none => rw [q] at h; cases h
      | some i =>
        rw [q, Option.map_some] at h
        obtain ⟨g, hg, hok⟩ := firstG_some q
        rw [getD_of hg] at h
        exact ⟨i, g, hg, hok, by rw [hn]; exact (Option.some.inj h).symm⟩
theorem sweep_has {B : Bk} (okB : BOk B) {ok : List Nd → Bool} {mk : List Nd → Trs} {f : TM} {k : Kd} (hk : k ∈ B.kinds) {g : List Nd} (hg : g ∈ k.gs) (h : ok g = true) : (sweepT B ok mk f k.name).isSome = true := by
  unfold sweepT
  cases e : f k.name with
  | some u => rfl
  | none =>
    dsimp only
    rw [find_kind okB hk]
    dsimp only
    unfold newT
    rw [e, if_neg (by decide), Option.isSome_map]
    exact firstG_isSome hg h
theorem itT_up {B : Bk} {right : List Str → List Nd → Bool} {n : Str} {t : Tr} {s : Nat} (h : itT B right s n = some t) : ∀ {s' : Nat}, s ≤ s' → itT B right s' n = some t := fun {s'} hs => by
  induction s' with
  | zero => rw [Nat.le_zero.mp hs] at h; exact h
  | succ s' ih =>
    rcases Nat.lt_or_ge s (s' + 1) with z | z
    · exact sweep_some (ih (by omega))
    · rw [Nat.le_antisymm hs z] at h; exact h
theorem itO_up {B : Bk} {st : List Str} {n : Str} {t : Tr} {s : Nat} (h : itO B st s n = some t) : ∀ {s' : Nat}, s ≤ s' → itO B st s' n = some t := fun {s'} hs => by
  induction s' with
  | zero => rw [Nat.le_zero.mp hs] at h; exact h
  | succ s' ih =>
    rcases Nat.lt_or_ge s (s' + 1) with z | z
    · exact sweep_some (ih (by omega))
    · rw [Nat.le_antisymm hs z] at h; exact h
theorem mem_dom {B : Bk} {f : TM} {n : Str} : n ∈ dom B f ↔ n ∈ B.names ∧ (f n).isSome = true := by
  unfold dom
  exact List.mem_filter
/-- the name of what a map by sweeps holds is that of a kind -/
theorem itT_isin {B : Bk} (okB : BOk B) {right : List Str → List Nd → Bool} : ∀ {s : Nat} {n : Str} {t : Tr}, itT B right s n = some t → n ∈ B.names
  | 0, _, _, h => by cases h
  | s + 1, n, t, h => by
    rcases sweep_from (okB := okB) h with h | ⟨_, k, hk, hn, _⟩
    · exact itT_isin okB h
    · rw [← hn]; exact List.mem_map_of_mem hk
theorem itO_isin {B : Bk} (okB : BOk B) {st : List Str} : ∀ {s : Nat} {n : Str} {t : Tr}, itO B st s n = some t → n ∈ B.names
  | 0, _, _, h => by cases h
  | s + 1, n, t, h => by
    rcases sweep_from (okB := okB) h with h | ⟨_, k, hk, hn, _⟩
    · exact itO_isin okB h
    · rw [← hn]; exact List.mem_map_of_mem hk
/-- what the needs of a ground ask of the kinds found -/
theorem met_dom {B : Bk} {f : TM} {g : List Nd} (h : metG B (dom B f) g = true) {n : Str} {a t m : Int} (hn : Nd.knd n a t m ∈ g) : n ∈ B.names ∧ (∃ T, f n = some T) ∧ a < B.keepOf n := by
  have q := List.all_eq_true.mp h _ hn
  simp only [metN, Bool.and_eq_true, decide_eq_true_eq] at q
  obtain ⟨h1, h2⟩ := mem_dom.mp q.1
  exact ⟨h1, Option.isSome_iff_exists.mp h2, q.2⟩
theorem met_of {B : Bk} {f : TM} {g : List Nd} (h : ∀ n a t m, Nd.knd n a t m ∈ g → n ∈ B.names ∧ (f n).isSome = true ∧ a < B.keepOf n) : metG B (dom B f) g = true := by
  refine List.all_eq_true.mpr fun x hx => ?_
  cases x with
  | row r t m => rfl
  | knd n a t m =>
    obtain ⟨h1, h2, h3⟩ := h n a t m hx
    simp only [metN, Bool.and_eq_true, decide_eq_true_eq]
    exact ⟨mem_dom.mpr ⟨h1, h2⟩, h3⟩
end Gy

namespace Gy
open PySem L2 PySem.Spec PyProof.Rows
/-! ### trees are trees; their levels -/
/-- how many of the first 99 sweeps a name lacks a tree behind -/
def Lv (F : Nat → TM) (n : Str) : Nat := ((List.range 99).filter fun s => (F s n).isNone).length
def Up (F : Nat → TM) : Prop := ∀ (s s' : Nat) (n : Str) (t : Tr), F s n = some t → s ≤ s' → F s' n = some t
theorem Lv_99 (F : Nat → TM) (n : Str) : Lv F n ≤ 99 := by
  have := List.length_filter_le (fun s => (F s n).isNone) (List.range 99)
  rw [List.length_range] at this
  exact this
theorem Lv_iff {F : Nat → TM} (up : Up F) {n : Str} {s : Nat} (hs : s < 99) : (F s n).isSome = true ↔ Lv F n ≤ s := by
  have nd : ((List.range 99).filter fun s => (F s n).isNone).Nodup := List.nodup_range.sublist List.filter_sublist
  constructor
  · intro h
    obtain ⟨t, ht⟩ := Option.isSome_iff_exists.mp h
    have q := nodup_sub nd (m := List.range s) fun x hx => by
      obtain ⟨_, h2⟩ := List.mem_filter.mp hx
      rw [List.mem_range]
      rcases Nat.lt_or_ge x s with z | z
      · exact z
      · rw [up s x n t ht z] at h2
        cases h2
    rw [List.length_range] at q
    exact q
  · intro h
    cases e : F s n with
    | some t => rfl
    | none =>
      have q := nodup_sub (List.nodup_range (n := s + 1)) (m := (List.range 99).filter fun s => (F s n).isNone) fun x hx => by
        have hx := List.mem_range.mp hx
        refine List.mem_filter.mpr ⟨List.mem_range.mpr (by omega), ?_⟩
        cases z : F x n with
        | none => rfl
        | some t =>
          rw [up x s n t z (by omega)] at e
          cases e
      rw [List.length_range] at q
      have h : ((List.range 99).filter fun s => (F s n).isNone).length ≤ s := h
      omega
theorem up_T (B : Bk) (right : List Str → List Nd → Bool) : Up (itT B right) := fun _ _ _ _ h hs => itT_up h hs
theorem up_O (B : Bk) (st : List Str) : Up (itO B st) := fun _ _ _ _ h hs => itO_up h hs
/-- the greatest number of the kinds that a ground needs -/
def mxL (w : Str → Nat) : List Nd → Nat
  | [] => 0
  | .row _ _ _ :: g => mxL w g
  | .knd n _ _ _ :: g => max (w n) (mxL w g)
theorem mxL_le {w : Str → Nat} {d : Nat} : ∀ {g : List Nd}, (∀ n a t m, Nd.knd n a t m ∈ g → w n ≤ d) → mxL w g ≤ d
  | [], _ => Nat.zero_le _
  | .row r t m :: g, h => mxL_le (g := g) fun n a t m hn => h n a t m (List.mem_cons_of_mem _ hn)
  | .knd n a t m :: g, h => Nat.max_le.mpr ⟨h n a t m List.mem_cons_self, mxL_le (g := g) fun n a t m hn => h n a t m (List.mem_cons_of_mem _ hn)⟩
theorem mxL_ge {w : Str → Nat} {n : Str} {a t m : Int} : ∀ {g : List Nd}, Nd.knd n a t m ∈ g → w n ≤ mxL w g
  | .row r t' m' :: g, h => by
    rcases List.mem_cons.mp h with e | e
    · cases e
    · exact mxL_ge (g := g) e
  | .knd n' a' t' m' :: g, h => by
    rcases List.mem_cons.mp h with e | e
    · cases e
      exact Nat.le_max_left _ _
    · exact Nat.le_trans (mxL_ge (g := g) e) (Nat.le_max_right _ _)
theorem mxL_mono {w w' : Str → Nat} (h : ∀ n, w n ≤ w' n) (g : List Nd) : mxL w g ≤ mxL w' g := mxL_le fun n a t m hn => Nat.le_trans (h n) (mxL_ge hn)
theorem mxL_in {w : Str → Nat} : ∀ g : List Nd, mxL w g = 0 ∨ ∃ n a t m, Nd.knd n a t m ∈ g ∧ mxL w g = w n
  | [] => .inl rfl
  | .row r t m :: g => by
    rcases mxL_in (w := w) g with e | ⟨n, a, t', m', h, e⟩
    · exact .inl e
    · exact .inr ⟨n, a, t', m', List.mem_cons_of_mem _ h, e⟩
  | .knd n a t m :: g => by
    rcases Nat.le_total (w n) (mxL w g) with z | z
    · rcases mxL_in (w := w) g with e | ⟨n', a', t', m', h, e⟩
      · exact .inl (by show max (w n) (mxL w g) = 0; omega)
      · exact .inr ⟨n', a', t', m', List.mem_cons_of_mem _ h, by show max (w n) (mxL w g) = _; omega⟩
    · exact .inr ⟨n, a, t, m, List.mem_cons_self, by show max (w n) (mxL w g) = _; omega⟩
theorem partsBy_is {B : Bk} {f : TM} : ∀ {g : List Nd}, (∀ n a t m, Nd.knd n a t m ∈ g → ∃ T, f n = some T ∧ IsTr B n T) → IsTrs B g (partsBy f g)
  | [], _ => .nil
  | .row r t m :: g, h => .row (partsBy_is (g := g) fun n a t m hn => h n a t m (List.mem_cons_of_mem _ hn))
  | .knd n a t m :: g, h => by
    obtain ⟨T, hT, i⟩ := h n a t m List.mem_cons_self
    have q := partsBy_is (g := g) fun n a t m hn => h n a t m (List.mem_cons_of_mem _ hn)
    unfold partsBy
    rw [hT]
    exact .kid i q
theorem partsE_is {B : Bk} {f e : TM} (he : ∀ n T, e n = some T → IsTr B n T) : ∀ {g : List Nd}, (∀ n a t m, Nd.knd n a t m ∈ g → ∃ T, f n = some T ∧ IsTr B n T) → IsTrs B g (partsE f e g)
  | [], _ => .nil
  | .row r t m :: g, h => .row (partsE_is he (g := g) fun n a t m hn => h n a t m (List.mem_cons_of_mem _ hn))
  | .knd n a t m :: g, h => by
    obtain ⟨T, hT, i⟩ := h n a t m List.mem_cons_self
    have h' : ∀ n a t m, Nd.knd n a t m ∈ g → ∃ T, f n = some T ∧ IsTr B n T := fun n a t m hn => h n a t m (List.mem_cons_of_mem _ hn)
    unfold partsE
    cases z : e n with
    | some u => exact .kid (he n u z) (partsBy_is h')
    | none =>
      dsimp only
      rw [hT]
      exact .kid i (partsE_is he h')
theorem partsBy_lev {f : TM} {w : Str → Nat} : ∀ {g : List Nd}, (∀ n a t m, Nd.knd n a t m ∈ g → ∃ T, f n = some T ∧ T.lev = w n) → (partsBy f g).lev = mxL w g
  | [], _ => rfl
  | .row r t m :: g, h => partsBy_lev (g := g) fun n a t m hn => h n a t m (List.mem_cons_of_mem _ hn)
  | .knd n a t m :: g, h => by
    obtain ⟨T, hT, i⟩ := h n a t m List.mem_cons_self
    have q := partsBy_lev (g := g) fun n a t m hn => h n a t m (List.mem_cons_of_mem _ hn)
    unfold partsBy
    rw [hT]
    show max T.lev (partsBy f g).lev = max (w n) (mxL w g)
    rw [i, q]
/-- what is asked of a rightness of grounds -/
structure RightOk (B : Bk) (right : List Str → List Nd → Bool) : Prop where
  met : ∀ l g, right l g = true → metG B l g = true
  only : ∀ l l' g, right l g = true → (∀ n a t m, Nd.knd n a t m ∈ g → n ∈ l') → right l' g = true
theorem met_only {B : Bk} {l l' : List Str} {g : List Nd} (h : metG B l g = true) (h' : ∀ n a t m, Nd.knd n a t m ∈ g → n ∈ l') : metG B l' g = true := by
  refine List.all_eq_true.mpr fun x hx => ?_
  have q := List.all_eq_true.mp h x hx
  cases x with
  | row r t m => rfl
  | knd n a t m =>
    simp only [metN, Bool.and_eq_true, decide_eq_true_eq] at q ⊢
    exact ⟨h' n a t m hx, q.2⟩
theorem right_met (B : Bk) : RightOk B (metG B) := ⟨fun _ _ h => h, fun _ _ _ h h' => met_only h h'⟩
theorem right_clean (B : Bk) (st : List Str) : RightOk B (rClean B st) := ⟨fun l g h => by
  unfold rClean at h
  rw [Bool.and_eq_true] at h
  exact h.1, fun l l' g h h' => by
  unfold rClean at h ⊢
  rw [Bool.and_eq_true] at h ⊢
  exact ⟨met_only h.1 h', h.2⟩⟩
section
variable {B : Bk} (ok : BOk B)
include ok
/-- trees by sweeps are trees of bearing kinds -/
theorem itT_is {right : List Str → List Nd → Bool} (R : RightOk B right) : ∀ {s : Nat} {n : Str} {t : Tr}, itT B right s n = some t → IsTr B n t ∧ n ∈ B.bear
  | 0, _, _, h => by cases h
  | s + 1, n, t, h => by
    rcases sweep_from (okB := ok) h with h | ⟨_, k, hk, hn, i, g, hg, hr, rfl⟩
    · exact itT_is R h
    · have hm := R.met _ _ hr
      have hb : ∀ x ∈ dom B (itT B right s), x ∈ B.bear := fun x hx => by
        obtain ⟨T, hT⟩ := Option.isSome_iff_exists.mp (mem_dom.mp hx).2
        exact (itT_is R hT).2
      have hmb : metG B B.bear g = true := metG_mono B _ _ g hb hm
      subst hn
      refine ⟨.mk hk hg hmb (partsBy_is fun n a t m hn => ?_), mem_lsL.mpr (.mk k B.bear hk (fun x hx => mem_lsL.mp hx) (List.any_eq_true.mpr ⟨g, List.mem_of_getElem? hg, hmb⟩))⟩
      obtain ⟨_, ⟨T, hT⟩, _⟩ := met_dom hm hn
      exact ⟨T, hT, (itT_is R hT).1⟩
theorem itO_is {st : List Str} : ∀ {s : Nat} {n : Str} {t : Tr}, itO B st s n = some t → IsTr B n t
  | 0, _, _, h => by cases h
  | s + 1, n, t, h => by
    rcases sweep_from (okB := ok) h with h | ⟨_, k, hk, hn, i, g, hg, hr, rfl⟩
    · exact itO_is h
    · unfold okO at hr
      rw [Bool.and_eq_true] at hr
      have hm := hr.1
      have hb : ∀ x ∈ dom B (itT B (metG B) s), x ∈ B.bear := fun x hx => by
        obtain ⟨T, hT⟩ := Option.isSome_iff_exists.mp (mem_dom.mp hx).2
        exact (itT_is ok (right_met B) hT).2
      have hp : ∀ n a t m, Nd.knd n a t m ∈ g → ∃ T, itT B (metG B) s n = some T ∧ IsTr B n T := fun n a t m hn => by
        obtain ⟨_, ⟨T, hT⟩, _⟩ := met_dom hm hn
        exact ⟨T, hT, (itT_is ok (right_met B) hT).1⟩
      subst hn
      refine .mk hk hg (metG_mono B _ _ g hb hm) ?_
      unfold partsO
      split
      · exact partsBy_is hp
      · exact partsE_is (fun n T hT => itO_is hT) hp
/-- a told tree has its level, by a ground -/
theorem itT_lev {right : List Str → List Nd → Bool} (R : RightOk B right) : ∀ {s : Nat} {n : Str} {t : Tr}, s < 99 → itT B right s n = some t → t.lev = Lv (itT B right) n ∧ ∃ k ∈ B.kinds, k.name = n ∧ ∃ g ∈ k.gs, ∃ l, right l g = true ∧ metG B B.bear g = true ∧ Lv (itT B right) n = 1 + mxL (Lv (itT B right)) g
  | 0, _, _, _, h => by cases h
  | s + 1, n, t, hs, h => by
    rcases sweep_from (okB := ok) h with h' | ⟨e0, k, hk, hn, i, g, hg, hr, rfl⟩
    · exact itT_lev R (by omega) h'
    · have up := up_T B right
      have gin := List.mem_of_getElem? hg
      have hm := R.met _ _ hr
      have hp : ∀ n a t m, Nd.knd n a t m ∈ g → ∃ T, itT B right s n = some T ∧ T.lev = Lv (itT B right) n := fun n a t m hn => by
        obtain ⟨_, ⟨T, hT⟩, _⟩ := met_dom hm hn
        exact ⟨T, hT, (itT_lev R (by omega) hT).1⟩
      have hb : ∀ x ∈ dom B (itT B right s), x ∈ B.bear := fun x hx => by
        obtain ⟨T, hT⟩ := Option.isSome_iff_exists.mp (mem_dom.mp hx).2
        exact (itT_is ok R hT).2
      have l1 : Lv (itT B right) n ≤ s + 1 := (Lv_iff up hs).mp (by rw [h]; rfl)
      have l2 : ¬ Lv (itT B right) n ≤ s := fun z => by
        have := (Lv_iff up (by omega : s < 99)).mpr z
        rw [e0] at this
        cases this
      have m1 : mxL (Lv (itT B right)) g ≤ s := mxL_le fun n' a t m hn' => by
        obtain ⟨T, hT, _⟩ := hp n' a t m hn'
        exact (Lv_iff up (by omega)).mp (by rw [hT]; rfl)
      have m2 : s ≤ mxL (Lv (itT B right)) g := by
        rcases Nat.lt_or_ge (mxL (Lv (itT B right)) g) s with z | z
        · obtain ⟨s', rfl⟩ : ∃ s', s = s' + 1 := ⟨s - 1, by omega⟩
          have hr' : right (dom B (itT B right s')) g = true := R.only _ _ g hr fun n' a t m hn' => by
            have q := mxL_ge (w := Lv (itT B right)) hn'
            exact mem_dom.mpr ⟨(met_dom hm hn').1, (Lv_iff up (by omega)).mpr (by omega)⟩
          have := sweep_has ok (mk := partsBy (itT B right s')) (f := itT B right s') hk gin hr'
          rw [hn] at this
          have e0' : sweepT B (right (dom B (itT B right s'))) (partsBy (itT B right s')) (itT B right s') n = none := e0
          rw [e0'] at this
          cases this
        · exact z
      refine ⟨?_, k, hk, hn, g, gin, _, hr, metG_mono B _ _ g hb hm, by omega⟩
      show 1 + (partsBy (itT B right s) g).lev = _
      rw [partsBy_lev hp]
      omega
theorem itO_T {st : List Str} : ∀ {s : Nat} {n : Str} {t : Tr}, itO B st s n = some t → (itT B (metG B) s n).isSome = true
  | 0, _, _, h => by cases h
  | s + 1, n, t, h => by
    rcases sweep_from (okB := ok) h with h' | ⟨e0, k, hk, hn, i, g, hg, hr, rfl⟩
    · obtain ⟨T, hT⟩ := Option.isSome_iff_exists.mp (itO_T h')
      rw [itT_up hT (Nat.le_succ s)]
      rfl
    · unfold okO at hr
      rw [Bool.and_eq_true] at hr
      rw [← hn]
      exact sweep_has ok hk (List.mem_of_getElem? hg) hr.1
theorem L0_le_LO {st : List Str} (n : Str) : Lv (itT B (metG B)) n ≤ Lv (itO B st) n := by
  rcases Nat.lt_or_ge (Lv (itO B st) n) 99 with z | z
  · obtain ⟨t, ht⟩ := Option.isSome_iff_exists.mp ((Lv_iff (up_O B st) z).mpr (Nat.le_refl _))
    exact (Lv_iff (up_T B _) z).mp (itO_T ok ht)
  · exact Nat.le_trans (Lv_99 _ _) z
end
end Gy

namespace Gy
open PySem L2 PySem.Spec PyProof.Rows
/-! ### old trees: levels; how many sweeps; how great trees are -/
def kn : List Nd → List Str
  | [] => []
  | .row _ _ _ :: g => kn g
  | .knd n _ _ _ :: g => n :: kn g
def lmx (l : List Nat) : Nat := l.foldr max 0
theorem lmx_ge {x : Nat} : ∀ {l : List Nat}, x ∈ l → x ≤ lmx l
  | y :: l, h => by
    show x ≤ max y (lmx l)
    rcases List.mem_cons.mp h with e | e
    · omega
    · have := lmx_ge e
      omega
theorem lmx_le {d : Nat} : ∀ {l : List Nat}, (∀ x ∈ l, x ≤ d) → lmx l ≤ d
  | [], _ => Nat.zero_le _
  | y :: l, h => Nat.max_le.mpr ⟨h y List.mem_cons_self, lmx_le fun x hx => h x (List.mem_cons_of_mem _ hx)⟩
theorem mem_kn {n : Str} : ∀ {g : List Nd}, n ∈ kn g ↔ ∃ a t m, Nd.knd n a t m ∈ g
  | [] => ⟨fun h => (by cases h), fun ⟨_, _, _, h⟩ => (by cases h)⟩
  | .row r t m :: g => by
    rw [show kn (.row r t m :: g) = kn g from rfl, mem_kn (g := g)]
    exact ⟨fun ⟨a, t', m', h⟩ => ⟨a, t', m', List.mem_cons_of_mem _ h⟩, fun ⟨a, t', m', h⟩ => ⟨a, t', m', (List.mem_cons.mp h).elim (fun z => by cases z) id⟩⟩
  | .knd n' a' t' m' :: g => by
    rw [show kn (.knd n' a' t' m' :: g) = n' :: kn g from rfl, List.mem_cons, mem_kn (g := g)]
    constructor
    · rintro (e | ⟨a, t, m, h⟩)
      · exact ⟨a', t', m', by rw [e]; exact List.mem_cons_self⟩
      · exact ⟨a, t, m, List.mem_cons_of_mem _ h⟩
    · rintro ⟨a, t, m, h⟩
      rcases List.mem_cons.mp h with e | e
      · injection e with e1
        exact .inl e1
      · exact .inr ⟨a, t, m, e⟩
theorem mxL_kn (w : Str → Nat) : ∀ g : List Nd, mxL w g = lmx ((kn g).map w)
  | [] => rfl
  | .row r t m :: g => mxL_kn w g
  | .knd n a t m :: g => by
    show max (w n) (mxL w g) = max (w n) (lmx ((kn g).map w))
    rw [mxL_kn w g]
def mxJ (w0 wo : Str → Nat) : List Str → Nat → Nat
  | [], _ => 0
  | n :: ns, 0 => max (wo n) (lmx (ns.map w0))
  | n :: ns, j + 1 => max (w0 n) (mxJ w0 wo ns j)
theorem mxJ_le {w0 wo : Str → Nat} {d : Nat} : ∀ {ns : List Str} {j : Nat} {n : Str}, ns[j]? = some n → (∀ x ∈ ns, w0 x ≤ d) → wo n ≤ d → mxJ w0 wo ns j ≤ d
  | x :: ns, 0, n, h, h0, ho => by
    cases h
    refine Nat.max_le.mpr ⟨ho, lmx_le fun y hy => ?_⟩
    obtain ⟨z, hz, rfl⟩ := List.mem_map.mp hy
    exact h0 z (List.mem_cons_of_mem _ hz)
  | x :: ns, j + 1, n, h, h0, ho => Nat.max_le.mpr ⟨h0 x List.mem_cons_self, mxJ_le (ns := ns) (j := j) (n := n) h (fun y hy => h0 y (List.mem_cons_of_mem _ hy)) ho⟩
theorem mxJ_ge {w0 wo : Str → Nat} (hw : ∀ n, w0 n ≤ wo n) : ∀ {ns : List Str} {j : Nat} {n : Str}, ns[j]? = some n → wo n ≤ mxJ w0 wo ns j ∧ ∀ x ∈ ns, w0 x ≤ mxJ w0 wo ns j
  | x :: ns, 0, n, h => by
    cases h
    refine ⟨Nat.le_max_left _ _, fun y hy => ?_⟩
    show w0 y ≤ max (wo x) (lmx (ns.map w0))
    rcases List.mem_cons.mp hy with e | e
    · have := hw x
      rw [e]; omega
    · have := lmx_ge (List.mem_map_of_mem (f := w0) e)
      omega
  | x :: ns, j + 1, n, h => by
    obtain ⟨h1, h2⟩ := mxJ_ge hw (ns := ns) (j := j) (n := n) h
    refine ⟨Nat.le_trans h1 (Nat.le_max_right _ _), fun y hy => ?_⟩
    show w0 y ≤ max (w0 x) (mxJ w0 wo ns j)
    rcases List.mem_cons.mp hy with e | e
    · rw [e]; exact Nat.le_max_left _ _
    · exact Nat.le_trans (h2 y e) (Nat.le_max_right _ _)
theorem mxJ_mono {w0 wo v0 vo : Str → Nat} (h0 : ∀ n, w0 n ≤ v0 n) (ho : ∀ n, wo n ≤ vo n) : ∀ (ns : List Str) (j : Nat), mxJ w0 wo ns j ≤ mxJ v0 vo ns j
  | [], _ => Nat.le_refl _
  | x :: ns, 0 => by
    have : lmx (ns.map w0) ≤ lmx (ns.map v0) := lmx_le fun y hy => by
      obtain ⟨z, hz, rfl⟩ := List.mem_map.mp hy
      exact Nat.le_trans (h0 z) (lmx_ge (List.mem_map_of_mem hz))
    have := ho x
    show max (wo x) (lmx (ns.map w0)) ≤ max (vo x) (lmx (ns.map v0))
    omega
  | x :: ns, j + 1 => by
    have := mxJ_mono h0 ho ns j
    have := h0 x
    show max (w0 x) (mxJ w0 wo ns j) ≤ max (v0 x) (mxJ v0 vo ns j)
    omega
theorem partsE_lev {f e : TM} {w0 wo : Str → Nat} (he : ∀ n T, e n = some T → T.lev = wo n) : ∀ {g : List Nd}, (∀ n a t m, Nd.knd n a t m ∈ g → ∃ T, f n = some T ∧ T.lev = w0 n) → (∃ n a t m, Nd.knd n a t m ∈ g ∧ (e n).isSome = true) →
    ∃ j n, (kn g)[j]? = some n ∧ (e n).isSome = true ∧ (partsE f e g).lev = mxJ w0 wo (kn g) j
  | [], _, ⟨_, _, _, _, h, _⟩ => by cases h
  | .row r t m :: g, h, ⟨n, a, t', m', hn, hs⟩ =>
    partsE_lev he (g := g) (fun n a t m hn => h n a t m (List.mem_cons_of_mem _ hn)) ⟨n, a, t', m', (List.mem_cons.mp hn).elim (fun z => by cases z) id, hs⟩
  | .knd n a t m :: g, h, ⟨n', a', t', m', hn, hs⟩ => by
    obtain ⟨T, hT, i⟩ := h n a t m List.mem_cons_self
    have h' : ∀ n a t m, Nd.knd n a t m ∈ g → ∃ T, f n = some T ∧ T.lev = w0 n := fun n a t m hn => h n a t m (List.mem_cons_of_mem _ hn)
    unfold partsE
    cases z : e n with
    | some u =>
      refine ⟨0, n, rfl, by rw [z]; rfl, ?_⟩
      show max u.lev (partsBy f g).lev = max (wo n) (lmx ((kn g).map w0))
      rw [he n u z, partsBy_lev h', mxL_kn]
    | none =>
      dsimp only
      rw [hT]
      have hn' : Nd.knd n' a' t' m' ∈ g := by
        rcases List.mem_cons.mp hn with q | q
        · injection q with q1
          rw [q1, z] at hs
          cases hs
        · exact q
      obtain ⟨j, nj, hj, hs', q⟩ := partsE_lev he h' ⟨n', a', t', m', hn', hs⟩
      refine ⟨j + 1, nj, hj, hs', ?_⟩
      show max T.lev (partsE f e g).lev = max (w0 n) (mxJ w0 wo (kn g) j)
      rw [i, q]
theorem anyOld {B : Bk} {f : TM} {g : List Nd} (h : g.any (oldN (dom B f)) = true) : ∃ n a t m, Nd.knd n a t m ∈ g ∧ (f n).isSome = true := by
  obtain ⟨x, hx, q⟩ := List.any_eq_true.mp h
  cases x with
  | row r t m => cases q
  | knd n a t m => exact ⟨n, a, t, m, hx, (mem_dom.mp (of_decide_eq_true q)).2⟩
theorem anyOld_of {B : Bk} {f : TM} {g : List Nd} {n : Str} {a t m : Int} (hn : Nd.knd n a t m ∈ g) (h1 : n ∈ B.names) (h2 : (f n).isSome = true) : g.any (oldN (dom B f)) = true :=
  List.any_eq_true.mpr ⟨_, hn, decide_eq_true (mem_dom.mpr ⟨h1, h2⟩)⟩
section
variable {B : Bk} (ok : BOk B)
include ok
theorem itO_lev {st : List Str} : ∀ {s : Nat} {n : Str} {t : Tr}, s < 99 → itO B st s n = some t → t.lev = Lv (itO B st) n ∧ ∃ k ∈ B.kinds, k.name = n ∧ ∃ g ∈ k.gs, metG B B.bear g = true ∧
    ((g.any (onS st) = true ∧ Lv (itO B st) n = 1 + mxL (Lv (itT B (metG B))) g) ∨ ∃ j nj, (kn g)[j]? = some nj ∧ Lv (itO B st) n = 1 + mxJ (Lv (itT B (metG B))) (Lv (itO B st)) (kn g) j)
  | 0, _, _, _, h => by cases h
  | s + 1, n, t, hs, h => by
    rcases sweep_from (okB := ok) h with h' | ⟨e0, k, hk, hn, i, g, hg, hr, rfl⟩
    · exact itO_lev (by omega) h'
    · have up := up_O B st
      have upT := up_T B (metG B)
      have gin := List.mem_of_getElem? hg
      have hr0 := hr
      unfold okO at hr
      rw [Bool.and_eq_true] at hr
      obtain ⟨hm, hor⟩ := hr
      have hp : ∀ n a t m, Nd.knd n a t m ∈ g → ∃ T, itT B (metG B) s n = some T ∧ T.lev = Lv (itT B (metG B)) n := fun n a t m hn => by
        obtain ⟨_, ⟨T, hT⟩, _⟩ := met_dom hm hn
        exact ⟨T, hT, (itT_lev ok (right_met B) (by omega) hT).1⟩
      have hb : ∀ x ∈ dom B (itT B (metG B) s), x ∈ B.bear := fun x hx => by
        obtain ⟨T, hT⟩ := Option.isSome_iff_exists.mp (mem_dom.mp hx).2
        exact (itT_is ok (right_met B) hT).2
      have l1 : Lv (itO B st) n ≤ s + 1 := (Lv_iff up hs).mp (by rw [h]; rfl)
      have l2 : ¬ Lv (itO B st) n ≤ s := fun z => by
        have := (Lv_iff up (by omega : s < 99)).mpr z
        rw [e0] at this
        cases this
      have no : ∀ s', s = s' + 1 → okO B st (itT B (metG B) s') (itO B st s') g = true → False := fun s' es ho => by
        subst es
        have := sweep_has ok (mk := partsO st (itT B (metG B) s') (itO B st s')) (f := itO B st s') hk gin ho
        rw [hn] at this
        have e0' : sweepT B (okO B st (itT B (metG B) s') (itO B st s')) (partsO st (itT B (metG B) s') (itO B st s')) (itO B st s') n = none := e0
        rw [e0'] at this
        cases this
      have met' : ∀ s', s' < 99 → (∀ n a t m, Nd.knd n a t m ∈ g → Lv (itT B (metG B)) n ≤ s') → metG B (dom B (itT B (metG B) s')) g = true := fun s' hs' q => met_only hm fun n a t m hn =>
        mem_dom.mpr ⟨(met_dom hm hn).1, (Lv_iff upT hs').mpr (q n a t m hn)⟩
      have le0 : ∀ n a t m, Nd.knd n a t m ∈ g → Lv (itT B (metG B)) n ≤ s := fun n' a t m hn' => by
        obtain ⟨T, hT, _⟩ := hp n' a t m hn'
        exact (Lv_iff upT (by omega)).mp (by rw [hT]; rfl)
      refine ⟨?_, k, hk, hn, g, gin, metG_mono B _ _ g hb hm, ?_⟩
      all_goals
        by_cases ha : g.any (onS st) = true
      · show 1 + (partsO st (itT B (metG B) s) (itO B st s) g).lev = _
        unfold partsO
        rw [if_pos ha, partsBy_lev hp]
        have m1 := mxL_le le0
        have m2 : s ≤ mxL (Lv (itT B (metG B))) g := by
          rcases Nat.lt_or_ge (mxL (Lv (itT B (metG B))) g) s with z | z
          · refine (no (s - 1) (by omega) ?_).elim
            unfold okO
            rw [Bool.and_eq_true, ha, Bool.true_or]
            exact ⟨met' _ (by omega) fun n a t m hn => by have := mxL_ge (w := Lv (itT B (metG B))) hn; omega, rfl⟩
          · exact z
        omega
      · show 1 + (partsO st (itT B (metG B) s) (itO B st s) g).lev = _
        unfold partsO
        rw [if_neg ha]
        have hold : g.any (oldN (dom B (itO B st s))) = true := by
          rcases Bool.or_eq_true _ _ ▸ hor with z | z
          · exact absurd z ha
          · exact z
        obtain ⟨j, nj, hj, hsj, q⟩ := partsE_lev (f := itT B (metG B) s) (e := itO B st s) (w0 := Lv (itT B (metG B))) (wo := Lv (itO B st)) (fun n T hT => (itO_lev (by omega) hT).1) hp (anyOld hold)
        rw [q]
        have lj : Lv (itO B st) nj ≤ s := (Lv_iff up (by omega)).mp hsj
        have m1 := mxJ_le hj (fun x hx => by
          obtain ⟨a, t, m, hx⟩ := mem_kn.mp hx
          exact le0 x a t m hx) lj
        obtain ⟨g1, g2⟩ := mxJ_ge (L0_le_LO ok (st := st)) hj
        have m2 : s ≤ mxJ (Lv (itT B (metG B))) (Lv (itO B st)) (kn g) j := by
          rcases Nat.lt_or_ge (mxJ (Lv (itT B (metG B))) (Lv (itO B st)) (kn g) j) s with z | z
          · refine (no (s - 1) (by omega) ?_).elim
            unfold okO
            obtain ⟨a, t, m, hnj⟩ := mem_kn.mp (List.mem_of_getElem? hj)
            rw [Bool.and_eq_true, Bool.or_eq_true]
            refine ⟨met' _ (by omega) fun n a t m hn => by have := g2 n (mem_kn.mpr ⟨a, t, m, hn⟩); omega, .inr (anyOld_of hnj (met_dom hm hnj).1 ((Lv_iff up (by omega)).mpr (by omega)))⟩
          · exact z
        omega
      · refine .inl ⟨ha, ?_⟩
        have m1 := mxL_le le0
        have m2 : s ≤ mxL (Lv (itT B (metG B))) g := by
          rcases Nat.lt_or_ge (mxL (Lv (itT B (metG B))) g) s with z | z
          · refine (no (s - 1) (by omega) ?_).elim
            unfold okO
            rw [Bool.and_eq_true, ha, Bool.true_or]
            exact ⟨met' _ (by omega) fun n a t m hn => by have := mxL_ge (w := Lv (itT B (metG B))) hn; omega, rfl⟩
          · exact z
        omega
      · right
        have hold : g.any (oldN (dom B (itO B st s))) = true := by
          rcases Bool.or_eq_true _ _ ▸ hor with z | z
          · exact absurd z ha
          · exact z
        obtain ⟨j, nj, hj, hsj, q⟩ := partsE_lev (f := itT B (metG B) s) (e := itO B st s) (w0 := Lv (itT B (metG B))) (wo := Lv (itO B st)) (fun n T hT => (itO_lev (by omega) hT).1) hp (anyOld hold)
        refine ⟨j, nj, hj, ?_⟩
        have lj : Lv (itO B st) nj ≤ s := (Lv_iff up (by omega)).mp hsj
        have m1 := mxJ_le hj (fun x hx => by
          obtain ⟨a, t, m, hx⟩ := mem_kn.mp hx
          exact le0 x a t m hx) lj
        obtain ⟨g1, g2⟩ := mxJ_ge (L0_le_LO ok (st := st)) hj
        have m2 : s ≤ mxJ (Lv (itT B (metG B))) (Lv (itO B st)) (kn g) j := by
          rcases Nat.lt_or_ge (mxJ (Lv (itT B (metG B))) (Lv (itO B st)) (kn g) j) s with z | z
          · refine (no (s - 1) (by omega) ?_).elim
            unfold okO
            obtain ⟨a, t, m, hnj⟩ := mem_kn.mp (List.mem_of_getElem? hj)
            rw [Bool.and_eq_true, Bool.or_eq_true]
            refine ⟨met' _ (by omega) fun n a t m hn => by have := g2 n (mem_kn.mpr ⟨a, t, m, hn⟩); omega, .inr (anyOld_of hnj (met_dom hm hnj).1 ((Lv_iff up (by omega)).mpr (by omega)))⟩
          · exact z
        omega
/-! ### how many sweeps -/
end
def cntL (B : Bk) (F : Nat → TM) (d : Nat) : Nat := (B.names.filter fun n => decide (Lv F n ≤ d)).length
theorem cntL_le (B : Bk) (F : Nat → TM) (d : Nat) : cntL B F d ≤ B.kinds.length := by
  refine Nat.le_trans (List.length_filter_le _ _) ?_
  unfold Bk.names
  rw [List.length_map]
  exact Nat.le_refl _
theorem cntL_mono {B : Bk} (ok : BOk B) {F : Nat → TM} (d : Nat) : cntL B F d ≤ cntL B F (d + 1) := nodup_sub (ok.names.nd.sublist List.filter_sublist) fun x hx => by
  obtain ⟨h1, h2⟩ := List.mem_filter.mp hx
  have := of_decide_eq_true h2
  exact List.mem_filter.mpr ⟨h1, decide_eq_true (by omega)⟩
theorem cntL_lt {B : Bk} (ok : BOk B) {F : Nat → TM} {n : Str} {d : Nat} (hn : n ∈ B.names) (h : Lv F n = d + 1) : cntL B F d + 1 ≤ cntL B F (d + 1) := by
  have q := nodup_sub (l := n :: B.names.filter fun n => decide (Lv F n ≤ d)) (m := B.names.filter fun n => decide (Lv F n ≤ d + 1)) ?_ ?_
  · exact q
  · rw [List.nodup_cons]
    refine ⟨fun z => ?_, ok.names.nd.sublist List.filter_sublist⟩
    have := of_decide_eq_true (List.mem_filter.mp z).2
    omega
  · intro x hx
    rcases List.mem_cons.mp hx with e | e
    · rw [e]
      exact List.mem_filter.mpr ⟨hn, decide_eq_true (by omega)⟩
    · obtain ⟨h1, h2⟩ := List.mem_filter.mp e
      have := of_decide_eq_true h2
      exact List.mem_filter.mpr ⟨h1, decide_eq_true (by omega)⟩
section
variable {B : Bk} (ok : BOk B)
include ok
theorem cnt_T {right : List Str → List Nd → Bool} (R : RightOk B right) : ∀ (s : Nat) {n : Str}, s < 99 → Lv (itT B right) n = s → s ≤ cntL B (itT B right) s
  | 0, _, _, _ => Nat.zero_le _
  | s + 1, n, hs, h => by
    obtain ⟨t, ht⟩ := Option.isSome_iff_exists.mp ((Lv_iff (up_T B right) hs).mpr (Nat.le_of_eq h))
    have hn := itT_isin ok ht
    have q := cntL_lt ok hn h
    obtain ⟨_, k, _, _, g, _, l, _, _, e⟩ := itT_lev ok R hs ht
    rcases mxL_in (w := Lv (itT B right)) g with z | ⟨n', a, t', m, _, z⟩
    · have : s = 0 := by omega
      subst this
      omega
    · have := cnt_T R s (n := n') (by omega) (by omega)
      omega
theorem fin_T {right : List Str → List Nd → Bool} (R : RightOk B right) {n : Str} (h : Lv (itT B right) n < 99) : Lv (itT B right) n ≤ B.kinds.length := Nat.le_trans (cnt_T ok R _ h rfl) (cntL_le _ _ _)
theorem cnt_O {st : List Str} : ∀ (s : Nat) {n : Str}, s < 99 → (Lv (itT B (metG B)) n = s ∨ Lv (itO B st) n = s) → s ≤ cntL B (itT B (metG B)) s + cntL B (itO B st) s
  | 0, _, _, _ => Nat.zero_le _
  | s + 1, n, hs, h => by
    have c1 := cntL_mono ok (F := itT B (metG B)) s
    have c2 := cntL_mono ok (F := itO B st) s
    rcases h with h | h
    · obtain ⟨t, ht⟩ := Option.isSome_iff_exists.mp ((Lv_iff (up_T B _) hs).mpr (Nat.le_of_eq h))
      have hn := itT_isin ok ht
      have q := cntL_lt ok hn h
      obtain ⟨_, k, _, _, g, _, l, _, _, e⟩ := itT_lev ok (right_met B) hs ht
      rcases mxL_in (w := Lv (itT B (metG B))) g with z | ⟨n', a, t', m, _, z⟩
      · omega
      · have := cnt_O (st := st) s (n := n') (by omega) (.inl (by omega))
        omega
    · obtain ⟨t, ht⟩ := Option.isSome_iff_exists.mp ((Lv_iff (up_O B st) hs).mpr (Nat.le_of_eq h))
      have hn := itO_isin ok ht
      have q := cntL_lt ok hn h
      obtain ⟨_, k, _, _, g, _, _, e⟩ := itO_lev ok hs ht
      rcases e with ⟨_, e⟩ | ⟨j, nj, hj, e⟩
      · rcases mxL_in (w := Lv (itT B (metG B))) g with z | ⟨n', a, t', m, _, z⟩
        · omega
        · have := cnt_O (st := st) s (n := n') (by omega) (.inl (by omega))
          omega
      · have hin : mxJ (Lv (itT B (metG B))) (Lv (itO B st)) (kn g) j = 0 ∨ ∃ n', Lv (itT B (metG B)) n' = mxJ (Lv (itT B (metG B))) (Lv (itO B st)) (kn g) j ∨ Lv (itO B st) n' = mxJ (Lv (itT B (metG B))) (Lv (itO B st)) (kn g) j := by
          rcases Nat.eq_zero_or_pos (mxJ (Lv (itT B (metG B))) (Lv (itO B st)) (kn g) j) with z | z
          · exact .inl z
          · right
            refine Classical.byContradiction fun hc => ?_
            have hc : ∀ n', Lv (itT B (metG B)) n' ≠ mxJ (Lv (itT B (metG B))) (Lv (itO B st)) (kn g) j ∧ Lv (itO B st) n' ≠ mxJ (Lv (itT B (metG B))) (Lv (itO B st)) (kn g) j := fun n' => ⟨fun z => hc ⟨n', .inl z⟩, fun z => hc ⟨n', .inr z⟩⟩
            obtain ⟨g1, g2⟩ := mxJ_ge (L0_le_LO ok (st := st)) hj
            have := mxJ_le (w0 := Lv (itT B (metG B))) (wo := Lv (itO B st)) (d := mxJ (Lv (itT B (metG B))) (Lv (itO B st)) (kn g) j - 1) hj (fun x hx => by have := g2 x hx; have := (hc x).1; omega) (by have := (hc nj).2; omega)
            omega
        rcases hin with z | ⟨n', z⟩
        · omega
        · have := cnt_O (st := st) s (n := n') (by omega) (z.imp (by omega) (by omega))
          omega
theorem fin_O {st : List Str} {n : Str} (h : Lv (itO B st) n < 99) : Lv (itO B st) n ≤ 2 * B.kinds.length := by
  have := cnt_O ok (st := st) _ h (.inr rfl)
  have := cntL_le B (itT B (metG B)) (Lv (itO B st) n)
  have := cntL_le B (itO B st) (Lv (itO B st) n)
  omega
/-! ### where sweeps come to their end -/
theorem itT_end {right : List Str → List Nd → Bool} (R : RightOk B right) {s : Nat} (hs : B.kinds.length ≤ s) (hs' : s < 99) : itT B right s = itT B right B.kinds.length := funext fun n => by
  cases e : itT B right s n with
  | none =>
    cases z : itT B right B.kinds.length n with
    | none => rfl
    | some t =>
      rw [itT_up z hs] at e
      cases e
  | some t =>
    have l1 : Lv (itT B right) n ≤ s := (Lv_iff (up_T B right) hs').mp (by rw [e]; rfl)
    have l2 := fin_T ok R (n := n) (by omega)
    obtain ⟨u, hu⟩ := Option.isSome_iff_exists.mp ((Lv_iff (up_T B right) (by omega)).mpr l2)
    have := itT_up hu hs
    rw [e] at this
    rw [hu]
    exact this
theorem itO_end {st : List Str} {s : Nat} (hs : 2 * B.kinds.length ≤ s) (hs' : s < 99) : itO B st s = itO B st (2 * B.kinds.length) := funext fun n => by
  cases e : itO B st s n with
  | none =>
    cases z : itO B st (2 * B.kinds.length) n with
    | none => rfl
    | some t =>
      rw [itO_up z hs] at e
      cases e
  | some t =>
    have l1 : Lv (itO B st) n ≤ s := (Lv_iff (up_O B st) hs').mp (by rw [e]; rfl)
    have l2 := fin_O ok (st := st) (n := n) (by omega)
    obtain ⟨u, hu⟩ := Option.isSome_iff_exists.mp ((Lv_iff (up_O B st) (by omega)).mpr l2)
    have := itO_up hu hs
    rw [e] at this
    rw [hu]
    exact this
theorem itT_stop {right : List Str → List Nd → Bool} (R : RightOk B right) {s : Nat} (hs : s < 99) (e : itT B right (s + 1) = itT B right s) : itT B right s = itT B right B.kinds.length := by
  have const : ∀ s', s ≤ s' → itT B right s' = itT B right s := fun s' h => by
    induction s' with
    | zero => rw [Nat.le_zero.mp h]
    | succ s' ih =>
      rcases Nat.lt_or_ge s (s' + 1) with z | z
      · have := ih (by omega)
        show sweepT B (right (dom B (itT B right s'))) (partsBy (itT B right s')) (itT B right s') = _
        rw [this]
        exact e
      · rw [Nat.le_antisymm h z]
  rcases Nat.le_total s B.kinds.length with z | z
  · exact (const _ z).symm
  · exact itT_end ok R z hs
theorem itO_stop {st : List Str} {s : Nat} (hs : s < 99) (e : itT B (metG B) (s + 1) = itT B (metG B) s) (e' : itO B st (s + 1) = itO B st s) : itO B st s = itO B st (2 * B.kinds.length) := by
  have const : ∀ s', s ≤ s' → itT B (metG B) s' = itT B (metG B) s ∧ itO B st s' = itO B st s := fun s' h => by
    induction s' with
    | zero => rw [Nat.le_zero.mp h]; exact ⟨rfl, rfl⟩
    | succ s' ih =>
      rcases Nat.lt_or_ge s (s' + 1) with z | z
      · obtain ⟨i1, i2⟩ := ih (by omega)
        refine ⟨?_, ?_⟩
        · show sweepT B (metG B (dom B (itT B (metG B) s'))) (partsBy (itT B (metG B) s')) (itT B (metG B) s') = _
          rw [i1]
          exact e
        · show sweepT B (okO B st (itT B (metG B) s') (itO B st s')) (partsO st (itT B (metG B) s') (itO B st s')) (itO B st s') = _
          rw [i1, i2]
          exact e'
      · rw [Nat.le_antisymm h z]; exact ⟨rfl, rfl⟩
  rcases Nat.le_total s (2 * B.kinds.length) with z | z
  · exact (const _ z).2.symm
  · exact itO_end ok z hs
end
end Gy

namespace Gy
open PySem L2 PySem.Spec PyProof.Rows
/-! ### how great trees are -/
def NT : Nat → Nat
  | 0 => 1
  | s + 1 => 4 + NT s * 3
def NO (c : Nat) : Nat → Nat
  | 0 => NT c
  | s + 1 => 4 + (NO c s + NT c * 3)
theorem NT_pos : ∀ s, 1 ≤ NT s
  | 0 => Nat.le_refl _
  | s + 1 => by show 1 ≤ 4 + NT s * 3; omega
theorem NT_small {c : Nat} (h : c ≤ 5) : NT c ≤ 727 := match c, h with
  | 0, _ => by decide
  | 1, _ => by decide
  | 2, _ => by decide
  | 3, _ => by decide
  | 4, _ => by decide
  | 5, _ => by decide
theorem NO_small {c : Nat} (h : c ≤ 5) : NO c (2 * c) ≤ 30000 := match c, h with
  | 0, _ => by decide
  | 1, _ => by decide
  | 2, _ => by decide
  | 3, _ => by decide
  | 4, _ => by decide
  | 5, _ => by decide
theorem parts_fine {f : TM} {N m : Nat} (hN : 1 ≤ N) : ∀ {g : List Nd}, (∀ n a t m', Nd.knd n a t m' ∈ g → ∃ T, f n = some T ∧ T.d.Fine N m) → FineL (partsBy f g).ds (N * g.length) m
  | [], _ => FineL.nil.mono (Nat.zero_le _) (Nat.zero_le _)
  | .row r t m' :: g, h => by
    have q := parts_fine hN (g := g) fun n a t m hn => h n a t m (List.mem_cons_of_mem _ hn)
    have : N * (g.length + 1) = N * g.length + N := Nat.mul_succ N g.length
    exact (FineL.cons fine_non q).mono (by rw [List.length_cons]; omega) (by omega)
  | .knd n a t m' :: g, h => by
    obtain ⟨T, hT, i⟩ := h n a t m' List.mem_cons_self
    have q := parts_fine hN (g := g) fun n a t m hn => h n a t m (List.mem_cons_of_mem _ hn)
    have : N * (g.length + 1) = N * g.length + N := Nat.mul_succ N g.length
    unfold partsBy
    rw [hT]
    exact (FineL.cons i q).mono (by rw [List.length_cons]; omega) (by omega)
theorem partsE_fine {f e : TM} {N M m : Nat} (hN : 1 ≤ N) (he : ∀ n T, e n = some T → T.d.Fine M m) : ∀ {g : List Nd}, (∀ n a t m', Nd.knd n a t m' ∈ g → ∃ T, f n = some T ∧ T.d.Fine N m) → FineL (partsE f e g).ds (M + N * g.length) m
  | [], _ => FineL.nil.mono (Nat.zero_le _) (Nat.zero_le _)
  | .row r t m' :: g, h => by
    have q := partsE_fine hN he (g := g) fun n a t m hn => h n a t m (List.mem_cons_of_mem _ hn)
    have : N * (g.length + 1) = N * g.length + N := Nat.mul_succ N g.length
    exact (FineL.cons fine_non q).mono (by rw [List.length_cons]; omega) (by omega)
  | .knd n a t m' :: g, h => by
    obtain ⟨T, hT, i⟩ := h n a t m' List.mem_cons_self
    have h' : ∀ n a t m', Nd.knd n a t m' ∈ g → ∃ T, f n = some T ∧ T.d.Fine N m := fun n a t m hn => h n a t m (List.mem_cons_of_mem _ hn)
    have : N * (g.length + 1) = N * g.length + N := Nat.mul_succ N g.length
    unfold partsE
    cases z : e n with
    | some u => exact (FineL.cons (he n u z) (parts_fine hN h')).mono (by rw [List.length_cons]; omega) (by omega)
    | none =>
      dsimp only
      rw [hT]
      exact (FineL.cons i (partsE_fine hN he h')).mono (by rw [List.length_cons]; omega) (by omega)
theorem mk_fine {n : Str} {i : Nat} {ps : Trs} {N m : Nat} (hn : n ∈ menu) (hi : i < 1000) (h : FineL ps.ds N m) : (Tr.mk n i ps).d.Fine (4 + N) (m + 2) :=
  (FineL.cons (fine_name hn) (FineL.cons (fine_int (i := ((i : Nat) : Int)) (by omega) (by omega)) (FineL.cons h.tup FineL.nil))).tup.mono (by omega) (by omega)
section
variable {B : Bk} (ok : BOk B)
include ok
theorem itT_fine {right : List Str → List Nd → Bool} (R : RightOk B right) : ∀ {s : Nat} {n : Str} {t : Tr}, itT B right s n = some t → t.d.Fine (NT s) (2 * s)
  | 0, _, _, h => by cases h
  | s + 1, n, t, h => by
    rcases sweep_from (okB := ok) h with h | ⟨_, k, hk, hn, i, g, hg, hr, rfl⟩
    · exact (itT_fine R h).mono (by show NT s ≤ 4 + NT s * 3; omega) (by omega)
    · have okk := ok.kinds k hk
      have l4 := okk.len
      have il := (List.getElem?_eq_some_iff.mp hg).1
      have l3 := (okk.gs g (List.mem_of_getElem? hg)).len
      have q := mk_fine (n := k.name) (i := i) (ok.name_in hk) (by omega) (parts_fine (f := itT B right s) (g := g) (NT_pos s) fun n a t m hn => by
        obtain ⟨_, ⟨T, hT⟩, _⟩ := met_dom (R.met _ _ hr) hn
        exact ⟨T, hT, itT_fine R hT⟩)
      have := Nat.mul_le_mul_left (NT s) l3
      exact q.mono (by show _ ≤ 4 + NT s * 3; omega) (by omega)
theorem itT_fineC {right : List Str → List Nd → Bool} (R : RightOk B right) {s : Nat} (hs : s < 99) {n : Str} {t : Tr} (h : itT B right s n = some t) : t.d.Fine (NT B.kinds.length) (2 * B.kinds.length) := by
  rcases Nat.le_total s B.kinds.length with z | z
  · exact itT_fine ok R (itT_up h z)
  · rw [itT_end ok R z hs] at h
    exact itT_fine ok R h
theorem itO_fine {st : List Str} : ∀ {s : Nat} {n : Str} {t : Tr}, s < 99 → itO B st s n = some t → t.d.Fine (NO B.kinds.length s) (2 * B.kinds.length + 2 * s)
  | 0, _, _, _, h => by cases h
  | s + 1, n, t, hs, h => by
    rcases sweep_from (okB := ok) h with h | ⟨_, k, hk, hn, i, g, hg, hr, rfl⟩
    · exact (itO_fine (by omega) h).mono (by show NO _ s ≤ 4 + (NO _ s + NT _ * 3); omega) (by omega)
    · have okk := ok.kinds k hk
      have l4 := okk.len
      have il := (List.getElem?_eq_some_iff.mp hg).1
      have l3 := (okk.gs g (List.mem_of_getElem? hg)).len
      unfold okO at hr
      rw [Bool.and_eq_true] at hr
      have hp : ∀ n a t m', Nd.knd n a t m' ∈ g → ∃ T, itT B (metG B) s n = some T ∧ T.d.Fine (NT B.kinds.length) (2 * B.kinds.length + 2 * s) := fun n a t m hn => by
        obtain ⟨_, ⟨T, hT⟩, _⟩ := met_dom hr.1 hn
        exact ⟨T, hT, (itT_fineC ok (right_met B) (by omega) hT).mono (Nat.le_refl _) (by omega)⟩
      have := Nat.mul_le_mul_left (NT B.kinds.length) l3
      have q : FineL (partsO st (itT B (metG B) s) (itO B st s) g).ds (NO B.kinds.length s + NT B.kinds.length * 3) (2 * B.kinds.length + 2 * s) := by
        unfold partsO
        split
        · exact (parts_fine (NT_pos _) hp).mono (by omega) (Nat.le_refl _)
        · exact (partsE_fine (NT_pos _) (fun n T hT => itO_fine (by omega) hT) hp).mono (by omega) (Nat.le_refl _)
      exact (mk_fine (n := k.name) (i := i) (ok.name_in hk) (by omega) q).mono (Nat.le_refl _) (by omega)
end
/-! ### the law's numbers -/
abbrev L0 (B : Bk) : Str → Nat := Lv (itT B (metG B))
abbrev L1 (B : Bk) (st : List Str) : Str → Nat := Lv (itT B (rClean B st))
abbrev LO (B : Bk) (st : List Str) : Str → Nat := Lv (itO B st)
structure WOk (B : Bk) (st : List Str) (i : Nat) (w0 w1 w2 : Str → Nat) : Prop where
  s0 : ∀ n, L0 B n ≤ w0 n
  s1 : ∀ n, L1 B st n ≤ w1 n
  s2 : ∀ n, LO B st n ≤ w2 n
  l0 : ∀ n, w0 n ≤ 99
  l1 : ∀ n, w1 n ≤ 99
  l2 : ∀ n, w2 n ≤ 99
  f0 : ∀ n, L0 B n ≤ i → w0 n ≤ L0 B n
  f1 : ∀ n, L1 B st n ≤ i → w1 n ≤ L1 B st n
  f2 : ∀ n, LO B st n ≤ i → w2 n ≤ LO B st n
theorem Lv_pos {F : Nat → TM} (up : Up F) (h0 : ∀ n, F 0 n = none) (n : Str) : ¬ Lv F n ≤ 0 := fun z => by
  have := (Lv_iff up (by decide : 0 < 99)).mpr z
  rw [h0] at this
  cases this
theorem WOk.start (B : Bk) (st : List Str) : WOk B st 0 (fun _ => 99) (fun _ => 99) (fun _ => 99) :=
  ⟨fun n => Lv_99 _ n, fun n => Lv_99 _ n, fun n => Lv_99 _ n, fun _ => Nat.le_refl _, fun _ => Nat.le_refl _, fun _ => Nat.le_refl _, fun n h => absurd h (Lv_pos (up_T B _) (fun _ => rfl) n), fun n h => absurd h (Lv_pos (up_T B _) (fun _ => rfl) n), fun n h => absurd h (Lv_pos (up_O B st) (fun _ => rfl) n)⟩
def putN (w : Str → Nat) (n : Str) (x : Nat) : Str → Nat := fun m => if m = n then x else w m
theorem putN_le {w : Str → Nat} {n : Str} {x : Nat} (h : x ≤ w n) (m : Str) : putN w n x m ≤ w m := by
  unfold putN
  split
  · rename_i e
    rw [e]; exact h
  · exact Nat.le_refl _
theorem putN_ge {w L : Str → Nat} {n : Str} {x : Nat} (h : L n ≤ x) (hw : ∀ m, L m ≤ w m) (m : Str) : L m ≤ putN w n x m := by
  unfold putN
  split
  · rename_i e
    rw [e]; exact h
  · exact hw m
theorem putN_self {w : Str → Nat} {n : Str} {x : Nat} : putN w n x n = x := if_pos rfl
/-- what is due behind a ground -/
structure PtW (B : Bk) (st : List Str) (i : Nat) (k : Kd) (g : List Nd) (w0 w1 w2 : Str → Nat) : Prop where
  p0 : mxL (L0 B) g ≤ i → w0 k.name ≤ 1 + mxL (L0 B) g
  p1 : g.any (onS st) = false → mxL (L1 B st) g ≤ i → w1 k.name ≤ 1 + mxL (L1 B st) g
  p2 : g.any (onS st) = true → mxL (L0 B) g ≤ i → w2 k.name ≤ 1 + mxL (L0 B) g
  p3 : ∀ j nj, (kn g)[j]? = some nj → mxJ (L0 B) (LO B st) (kn g) j ≤ i → w2 k.name ≤ 1 + mxJ (L0 B) (LO B st) (kn g) j
theorem PtW.mono {B : Bk} {st : List Str} {i : Nat} {k : Kd} {g : List Nd} {w0 w1 w2 v0 v1 v2 : Str → Nat} (h : PtW B st i k g w0 w1 w2) (h0 : ∀ n, v0 n ≤ w0 n) (h1 : ∀ n, v1 n ≤ w1 n) (h2 : ∀ n, v2 n ≤ w2 n) : PtW B st i k g v0 v1 v2 :=
  ⟨fun z => Nat.le_trans (h0 _) (h.p0 z), fun y z => Nat.le_trans (h1 _) (h.p1 y z), fun y z => Nat.le_trans (h2 _) (h.p2 y z), fun j nj y z => Nat.le_trans (h2 _) (h.p3 j nj y z)⟩
/-- the old numbers behind a ground -/
structure NewO (st : List Str) (w0 w2 : Str → Nat) (k : Kd) (g : List Nd) (x : Nat) : Prop where
  le : x ≤ w2 k.name
  bad : g.any (onS st) = true → x ≤ 1 + mxL w0 g
  js : ∀ j nj, (kn g)[j]? = some nj → x ≤ 1 + mxJ w0 w2 (kn g) j
  one : x = w2 k.name ∨ (g.any (onS st) = true ∧ x = 1 + mxL w0 g) ∨ ∃ j nj, (kn g)[j]? = some nj ∧ x = 1 + mxJ w0 w2 (kn g) j
def nw1 (st : List Str) (w1 : Str → Nat) (k : Kd) (g : List Nd) : Str → Nat := if g.any (onS st) = true then w1 else putN w1 k.name (min (w1 k.name) (1 + mxL w1 g))
section
variable {B : Bk} (ok : BOk B)
include ok
theorem eq_T {right : List Str → List Nd → Bool} {k : Kd} (hk : k ∈ B.kinds) {g : List Nd} (hg : g ∈ k.gs) (h : ∀ l, (∀ n a t m, Nd.knd n a t m ∈ g → n ∈ l) → right l g = true) : Lv (itT B right) k.name ≤ 1 + mxL (Lv (itT B right)) g := by
  rcases Nat.lt_or_ge (mxL (Lv (itT B right)) g) 98 with z | z
  · have q := sweep_has ok (mk := partsBy (itT B right (mxL (Lv (itT B right)) g))) (f := itT B right (mxL (Lv (itT B right)) g)) hk hg (h (dom B (itT B right (mxL (Lv (itT B right)) g))) fun n a t m hn => by
      have := mxL_ge (w := Lv (itT B right)) hn
      obtain ⟨T, hT⟩ := Option.isSome_iff_exists.mp ((Lv_iff (up_T B right) (by omega)).mpr this)
      exact mem_dom.mpr ⟨itT_isin ok hT, by rw [hT]; rfl⟩)
    have q' : (itT B right (mxL (Lv (itT B right)) g + 1) k.name).isSome = true := q
    have := (Lv_iff (up_T B right) (by omega)).mp q'
    omega
  · have := Lv_99 (itT B right) k.name
    omega
theorem eq_0 {k : Kd} (hk : k ∈ B.kinds) {g : List Nd} (hg : g ∈ k.gs) (hm : metG B B.bear g = true) : L0 B k.name ≤ 1 + mxL (L0 B) g := eq_T ok hk hg fun l h => met_only hm h
theorem eq_1 {st : List Str} {k : Kd} (hk : k ∈ B.kinds) {g : List Nd} (hg : g ∈ k.gs) (hm : metG B B.bear g = true) (hb : g.any (onS st) = false) : L1 B st k.name ≤ 1 + mxL (L1 B st) g := eq_T ok hk hg fun l h => by
  unfold rClean
  rw [met_only hm h, hb]
  rfl
theorem met_at {g : List Nd} (hm : metG B B.bear g = true) {M : Nat} (hM : M < 99) (h : ∀ n a t m, Nd.knd n a t m ∈ g → L0 B n ≤ M) : metG B (dom B (itT B (metG B) M)) g = true := met_only hm fun n a t m hn => by
  obtain ⟨T, hT⟩ := Option.isSome_iff_exists.mp ((Lv_iff (up_T B (metG B)) hM).mpr (h n a t m hn))
  exact mem_dom.mpr ⟨itT_isin ok hT, by rw [hT]; rfl⟩
theorem eq_2 {st : List Str} {k : Kd} (hk : k ∈ B.kinds) {g : List Nd} (hg : g ∈ k.gs) (hm : metG B B.bear g = true) (hb : g.any (onS st) = true) : LO B st k.name ≤ 1 + mxL (L0 B) g := by
  rcases Nat.lt_or_ge (mxL (L0 B) g) 98 with z | z
  · have q := sweep_has ok (mk := partsO st (itT B (metG B) (mxL (L0 B) g)) (itO B st (mxL (L0 B) g))) (f := itO B st (mxL (L0 B) g)) (ok := okO B st (itT B (metG B) (mxL (L0 B) g)) (itO B st (mxL (L0 B) g))) hk hg (by
      unfold okO
      rw [met_at ok hm (by omega) fun n a t m hn => mxL_ge hn, hb]
      rfl)
    have q' : (itO B st (mxL (L0 B) g + 1) k.name).isSome = true := q
    have := (Lv_iff (up_O B st) (by omega)).mp q'
    show Lv (itO B st) k.name ≤ _
    omega
  · have := Lv_99 (itO B st) k.name
    show Lv (itO B st) k.name ≤ _
    omega
theorem eq_3 {st : List Str} {k : Kd} (hk : k ∈ B.kinds) {g : List Nd} (hg : g ∈ k.gs) (hm : metG B B.bear g = true) {j : Nat} {nj : Str} (hj : (kn g)[j]? = some nj) : LO B st k.name ≤ 1 + mxJ (L0 B) (LO B st) (kn g) j := by
  obtain ⟨g1, g2⟩ := mxJ_ge (w0 := L0 B) (wo := LO B st) (L0_le_LO ok (st := st)) hj
  rcases Nat.lt_or_ge (mxJ (L0 B) (LO B st) (kn g) j) 98 with z | z
  · generalize mxJ (L0 B) (LO B st) (kn g) j = M at g1 g2 z
    obtain ⟨a, t, m, hnj⟩ := mem_kn.mp (List.mem_of_getElem? hj)
    have q := sweep_has ok (mk := partsO st (itT B (metG B) M) (itO B st M)) (f := itO B st M) (ok := okO B st (itT B (metG B) M) (itO B st M)) hk hg (by
      unfold okO
      obtain ⟨T, hT⟩ := Option.isSome_iff_exists.mp ((Lv_iff (up_O B st) (by omega)).mpr g1)
      rw [met_at ok hm (by omega) fun n a t m hn => g2 n (mem_kn.mpr ⟨a, t, m, hn⟩), anyOld_of hnj (itO_isin ok hT) (by rw [hT]; rfl), Bool.or_true]
      rfl)
    have q' : (itO B st (M + 1) k.name).isSome = true := q
    have := (Lv_iff (up_O B st) (by omega)).mp q'
    show Lv (itO B st) k.name ≤ _
    omega
  · have := Lv_99 (itO B st) k.name
    show Lv (itO B st) k.name ≤ _
    omega
theorem WOk.step {st : List Str} {i : Nat} {w0 w1 w2 : Str → Nat} (h : WOk B st i w0 w1 w2) {k : Kd} (hk : k ∈ B.kinds) {g : List Nd} (hg : g ∈ k.gs) (hm : metG B B.bear g = true) {x : Nat} (hx : NewO st w0 w2 k g x) :
    WOk B st i (putN w0 k.name (min (w0 k.name) (1 + mxL w0 g))) (nw1 st w1 k g) (putN w2 k.name x) ∧ PtW B st i k g (putN w0 k.name (min (w0 k.name) (1 + mxL w0 g))) (nw1 st w1 k g) (putN w2 k.name x) ∧
    (∀ n, putN w0 k.name (min (w0 k.name) (1 + mxL w0 g)) n ≤ w0 n) ∧ (∀ n, nw1 st w1 k g n ≤ w1 n) ∧ (∀ n, putN w2 k.name x n ≤ w2 n) := by
  have d0 : ∀ n, putN w0 k.name (min (w0 k.name) (1 + mxL w0 g)) n ≤ w0 n := putN_le (Nat.min_le_left _ _)
  have d1 : ∀ n, nw1 st w1 k g n ≤ w1 n := fun n => by
    unfold nw1
    split
    · exact Nat.le_refl _
    · exact putN_le (Nat.min_le_left _ _) n
  have d2 : ∀ n, putN w2 k.name x n ≤ w2 n := putN_le hx.le
  have m0 : mxL (L0 B) g ≤ mxL w0 g := mxL_mono h.s0 g
  have m1 : mxL (L1 B st) g ≤ mxL w1 g := mxL_mono h.s1 g
  have e0 := eq_0 ok hk hg hm
  refine ⟨⟨putN_ge (by have := h.s0 k.name; omega) h.s0, fun n => ?_, putN_ge ?_ h.s2, fun n => Nat.le_trans (d0 n) (h.l0 n), fun n => Nat.le_trans (d1 n) (h.l1 n), fun n => Nat.le_trans (d2 n) (h.l2 n), fun n z => Nat.le_trans (d0 n) (h.f0 n z), fun n z => Nat.le_trans (d1 n) (h.f1 n z), fun n z => Nat.le_trans (d2 n) (h.f2 n z)⟩, ⟨fun z => ?_, fun y z => ?_, fun y z => ?_, fun j nj hj z => ?_⟩, d0, d1, d2⟩
  · unfold nw1
    split
    · exact h.s1 n
    · rename_i hb
      have e1 := eq_1 ok (st := st) hk hg hm (by simpa using hb)
      exact putN_ge (by have := h.s1 k.name; omega) h.s1 n
  · rcases hx.one with e | ⟨hb, e⟩ | ⟨j, nj, hj, e⟩
    · rw [e]; exact h.s2 _
    · have := eq_2 ok (st := st) hk hg hm hb
      omega
    · have := eq_3 ok (st := st) hk hg hm hj
      have := mxJ_mono h.s0 h.s2 (kn g) j
      omega
  · have : mxL w0 g ≤ mxL (L0 B) g := mxL_le fun n a t m hn => Nat.le_trans (h.f0 n (Nat.le_trans (mxL_ge hn) z)) (mxL_ge hn)
    rw [putN_self]
    omega
  · have : mxL w1 g ≤ mxL (L1 B st) g := mxL_le fun n a t m hn => Nat.le_trans (h.f1 n (Nat.le_trans (mxL_ge hn) z)) (mxL_ge hn)
    unfold nw1
    rw [if_neg (by rw [y]; decide), putN_self]
    omega
  · have : mxL w0 g ≤ mxL (L0 B) g := mxL_le fun n a t m hn => Nat.le_trans (h.f0 n (Nat.le_trans (mxL_ge hn) z)) (mxL_ge hn)
    have := hx.bad y
    rw [putN_self]
    omega
  · obtain ⟨g1, g2⟩ := mxJ_ge (w0 := L0 B) (wo := LO B st) (L0_le_LO ok (st := st)) hj
    have := mxJ_le (w0 := w0) (wo := w2) hj (fun y hy => Nat.le_trans (h.f0 y (Nat.le_trans (g2 y hy) z)) (g2 y hy)) (Nat.le_trans (h.f2 nj (Nat.le_trans g1 z)) g1)
    have := hx.js j nj hj
    rw [putN_self]
    omega
end
structure SWT (B : Bk) (st : List Str) (i : Nat) (dn : Kd → List Nd → Prop) (w0 w1 w2 : Str → Nat) : Prop where
  ok : WOk B st i w0 w1 w2
  pt : ∀ k ∈ B.kinds, ∀ g ∈ k.gs, dn k g → PtW B st i k g w0 w1 w2
def dn2 (B : Bk) (j : Nat) : Kd → List Nd → Prop := fun k g => dnK B j k g ∧ metG B B.bear g = true
def dn3 (B : Bk) (j : Nat) (kd : Kd) (is : List Nat) : Kd → List Nd → Prop := fun k g => dn2 B j k g ∨ (k = kd ∧ ∃ t ∈ is, kd.gs[t]? = some g)
theorem SWT.start {B : Bk} {st : List Str} {i : Nat} {w0 w1 w2 : Str → Nat} (h : WOk B st i w0 w1 w2) : SWT B st i (dn2 B 0) w0 w1 w2 := ⟨h, fun k _ g _ ⟨⟨j, hj, _⟩, _⟩ => absurd hj (Nat.not_lt_zero j)⟩
theorem SWT.in {B : Bk} {st : List Str} {i j : Nat} {kd : Kd} {w0 w1 w2 : Str → Nat} (h : SWT B st i (dn2 B j) w0 w1 w2) : SWT B st i (dn3 B j kd []) w0 w1 w2 := ⟨h.ok, fun k hk g hg d => by
  rcases d with d | ⟨_, t, ht, _⟩
  · exact h.pt k hk g hg d
  · cases ht⟩
theorem SWT.step {B : Bk} (okB : BOk B) {st : List Str} {i j t : Nat} {kd : Kd} {g : List Nd} {is : List Nat} {w0 w1 w2 : Str → Nat} (h : SWT B st i (dn3 B j kd is) w0 w1 w2) (hk : kd ∈ B.kinds) (hg : kd.gs[t]? = some g) (hm : metG B B.bear g = true) {x : Nat} (hx : NewO st w0 w2 kd g x) :
    SWT B st i (dn3 B j kd (is ++ [t])) (putN w0 kd.name (min (w0 kd.name) (1 + mxL w0 g))) (nw1 st w1 kd g) (putN w2 kd.name x) := by
  obtain ⟨q1, q2, d0, d1, d2⟩ := h.ok.step okB hk (List.mem_of_getElem? hg) hm hx
  refine ⟨q1, fun k hk' g' hg' d => ?_⟩
  rcases d with d | ⟨rfl, t', ht', hg''⟩
  · exact (h.pt k hk' g' hg' (.inl d)).mono d0 d1 d2
  · rcases List.mem_append.mp ht' with z | z
    · exact (h.pt k hk' g' hg' (.inr ⟨rfl, t', z, hg''⟩)).mono d0 d1 d2
    · rw [List.mem_singleton.mp z, hg] at hg''
      cases hg''
      exact q2
theorem SWT.out {B : Bk} {st : List Str} {i j : Nat} {kd : Kd} {w0 w1 w2 : Str → Nat} (h : SWT B st i (dn3 B j kd (liveL B B.bear kd.gs)) w0 w1 w2) (hk : B.kinds[j]? = some kd) : SWT B st i (dn2 B (j + 1)) w0 w1 w2 := ⟨h.ok, fun k hk' g hg ⟨⟨j', hj', e⟩, hm⟩ => by
  rcases Nat.lt_succ_iff_lt_or_eq.mp hj' with z | z
  · exact h.pt k hk' g hg (.inl ⟨⟨j', z, e⟩, hm⟩)
  · subst z
    rw [hk] at e
    cases e
    obtain ⟨t, ht⟩ := List.getElem?_of_mem hg
    exact h.pt kd hk' g hg (.inr ⟨rfl, t, mem_live ht hm, ht⟩)⟩
theorem SWT.fin {B : Bk} (okB : BOk B) {st : List Str} {i : Nat} (hi : i + 1 < 99) {w0 w1 w2 : Str → Nat} (h : SWT B st i (dn2 B B.kinds.length) w0 w1 w2) : WOk B st (i + 1) w0 w1 w2 := by
  have all : ∀ k ∈ B.kinds, ∀ g ∈ k.gs, metG B B.bear g = true → PtW B st i k g w0 w1 w2 := fun k hk g hg hm => by
    obtain ⟨j, hj⟩ := List.getElem?_of_mem hk
    exact h.pt k hk g hg ⟨⟨j, (List.getElem?_eq_some_iff.mp hj).1, hj⟩, hm⟩
  refine ⟨h.ok.s0, h.ok.s1, h.ok.s2, h.ok.l0, h.ok.l1, h.ok.l2, fun n z => ?_, fun n z => ?_, fun n z => ?_⟩
  · rcases Nat.lt_or_ge (L0 B n) (i + 1) with y | y
    · exact h.ok.f0 n (by omega)
    · obtain ⟨t, ht⟩ := Option.isSome_iff_exists.mp ((Lv_iff (up_T B _) hi).mpr z)
      obtain ⟨_, k, hk, hn, g, hg, l, _, hm, e⟩ := itT_lev okB (right_met B) hi ht
      have e : L0 B n = 1 + mxL (L0 B) g := e
      have q := (all k hk g hg hm).p0 (by omega)
      rw [hn] at q
      omega
  · rcases Nat.lt_or_ge (L1 B st n) (i + 1) with y | y
    · exact h.ok.f1 n (by omega)
    · obtain ⟨t, ht⟩ := Option.isSome_iff_exists.mp ((Lv_iff (up_T B _) hi).mpr z)
      obtain ⟨_, k, hk, hn, g, hg, l, hr, hm, e⟩ := itT_lev okB (right_clean B st) hi ht
      have e : L1 B st n = 1 + mxL (L1 B st) g := e
      unfold rClean at hr
      rw [Bool.and_eq_true] at hr
      have q := (all k hk g hg hm).p1 (by simpa using hr.2) (by omega)
      rw [hn] at q
      omega
  · rcases Nat.lt_or_ge (LO B st n) (i + 1) with y | y
    · exact h.ok.f2 n (by omega)
    · obtain ⟨t, ht⟩ := Option.isSome_iff_exists.mp ((Lv_iff (up_O B st) hi).mpr z)
      obtain ⟨_, k, hk, hn, g, hg, hm, e⟩ := itO_lev okB hi ht
      have a := all k hk g hg hm
      rcases e with ⟨hb, e⟩ | ⟨j, nj, hj, e⟩
      · have e : LO B st n = 1 + mxL (L0 B) g := e
        have q := a.p2 hb (by omega)
        rw [hn] at q
        omega
      · have e : LO B st n = 1 + mxJ (L0 B) (LO B st) (kn g) j := e
        have q := a.p3 j nj hj (by omega)
        rw [hn] at q
        omega
theorem WOk.all {B : Bk} (okB : BOk B) {st : List Str} {w0 w1 w2 : Str → Nat} (h : WOk B st (3 * B.kinds.length) w0 w1 w2) (n : Str) : w1 n = L1 B st n ∧ w2 n = LO B st n := by
  constructor
  · have q1 := h.s1 n
    rcases Nat.lt_or_ge (L1 B st n) 99 with z | z
    · have : L1 B st n ≤ _ := fin_T okB (right_clean B st) z
      have := h.f1 n (by omega)
      omega
    · have := h.l1 n
      omega
  · have q1 := h.s2 n
    rcases Nat.lt_or_ge (LO B st n) 99 with z | z
    · have : LO B st n ≤ _ := fin_O okB z
      have := h.f2 n (by omega)
      omega
    · have := h.l2 n
      omega
end Gy

namespace L2
open PySem PySem.Spec PyProof.Rows
/-! ### d != {} -/
section
variable {X : Cx}
def rNeD0 : R2 := fun x y H Q => ∃ a b ks, x = .ref a ∧ y = .ref b ∧ H a = some (.dK ks) ∧ H b = some (.dK []) ∧ Q (.bl (!ks.isEmpty)) H
theorem op_ne_dict0 (hu : X.A.units < cLine) : OpR X (compareOp .NotEq) rNeD0 := by
  intro pins s σ H x y v u Q I rx ry h
  obtain ⟨a, b, ks, rfl, rfl, ea, eb, q⟩ := h
  obtain rfl : v = Value.ref a := rx
  obtain rfl : u = Value.ref b := ry
  obtain ⟨_, ya, va, ra, da⟩ := (show ObjOk X.prog X.w H s.heap a (.dK ks) from I.hok a _ ea)
  obtain ⟨_, yb, vb, rb, db⟩ := (show ObjOk X.prog X.w H s.heap b (.dK []) from I.hok b _ eb)
  have lb : vb = [] := by
    have := rb.length
    exact List.length_eq_zero_iff.mp this.symm
  subst lb
  refine PySem.W.keq_ne (knd := mixKind X.prog X.w) (r := true) ya yb da db hu (fun e => ?_) (fin_bl I q ?_)
  · have : va = [] := List.length_eq_zero_iff.mp e
    rw [this]
    exact .nil
  · have l := ra.length
    cases ks with
    | nil =>
      have : va = [] := List.length_eq_zero_iff.mp l.symm
      rw [this]
      rfl
    | cons p r =>
      cases va with
      | nil => simp at l
      | cons q t => rfl
end
end L2
namespace Gy
open PySem L2 PySem.Spec PyProof.Rows
/-! ### dicts of trees -/
def TDv (K : PySem.W.Frag) (H : Hp) (o : Option V) : Option Tr → Prop
  | some t => ∃ v, o = some v ∧ Rp K H v t.d
  | none => o = none
/-- at d a dict from names to the trees of f -/
structure TDk (K : PySem.W.Frag) (B : Bk) (H : Hp) (kvs : List (Key × V)) (f : TM) : Prop where
  nd : (kvs.map (·.1)).Nodup
  keys : ∀ ky ∈ kvs.map (·.1), ∃ n ∈ B.names, ky = Sum.inr n
  val : ∀ n : Str, TDv K H (valV kvs (Sum.inr n)) (f n)
def TD (K : PySem.W.Frag) (B : Bk) (H : Hp) (d : Addr) (f : TM) : Prop := ∃ kvs, H d = some (.dK kvs) ∧ TDk K B H kvs f
theorem TDv.tups {K : PySem.W.Frag} {H H' : Hp} (T : Tups H H') {o : Option V} : ∀ {t : Option Tr}, TDv K H o t → TDv K H' o t
  | some t, ⟨v, e, r⟩ => ⟨v, e, r.tups T t.flat⟩
  | none, h => h
theorem TDk.tups {K : PySem.W.Frag} {B : Bk} {H H' : Hp} (T : Tups H H') {kvs : List (Key × V)} {f : TM} (h : TDk K B H kvs f) : TDk K B H' kvs f := ⟨h.nd, h.keys, fun n => (h.val n).tups T⟩
theorem TD.same {K : PySem.W.Frag} {B : Bk} {H H' : Hp} {d : Addr} {f : TM} (h : TD K B H d f) (s : Same H H') : TD K B H' d f := let ⟨kvs, e, q⟩ := h; ⟨kvs, s _ _ e, q.tups (Tups.same s)⟩
theorem TDk.len {K : PySem.W.Frag} {B : Bk} (ok : BOk B) {H : Hp} {kvs : List (Key × V)} {f : TM} (h : TDk K B H kvs f) : kvs.length ≤ 15 := by
  have q := nodup_sub h.nd (m := B.names.map Sum.inr) fun x hx => by
    obtain ⟨n, hn, e⟩ := h.keys x hx
    rw [e]
    exact List.mem_map_of_mem hn
  rw [List.length_map, List.length_map] at q
  have := ok.names.len
  omega
theorem TDk.isSome {K : PySem.W.Frag} {B : Bk} {H : Hp} {kvs : List (Key × V)} {f : TM} (h : TDk K B H kvs f) (n : Str) : (valV kvs (Sum.inr n)).isSome = (f n).isSome := by
  have q := h.val n
  cases e : f n with
  | some t =>
    rw [e] at q
    obtain ⟨v, hv, _⟩ := q
    rw [hv]
    rfl
  | none =>
    rw [e] at q
    rw [show valV kvs (Sum.inr n) = none from q]
    rfl
theorem valV_mem {kvs : List (Key × V)} {k : Key} (h : (valV kvs k).isSome = true) : k ∈ kvs.map (·.1) := by
  rw [← valV_any] at h
  obtain ⟨p, hp, e⟩ := List.any_eq_true.mp h
  exact of_decide_eq_true e ▸ List.mem_map_of_mem hp
theorem TDk.sub {K : PySem.W.Frag} {B : Bk} {H : Hp} {kvs : List (Key × V)} {f : TM} (h : TDk K B H kvs f) {n : Str} (e : (f n).isSome = true) : n ∈ B.names := by
  rw [← h.isSome] at e
  obtain ⟨m, hm, q⟩ := h.keys _ (valV_mem e)
  cases q
  exact hm
theorem TD.inC {K : PySem.W.Frag} {B : Bk} {H : Hp} {d : Addr} {f : TM} (h : TD K B H d f) : InC H d (dom B f) := by
  obtain ⟨kvs, e, q⟩ := h
  refine .inr ⟨kvs, .inl e, fun n => ?_⟩
  rw [q.isSome]
  cases z : (f n).isSome with
  | true => exact (decide_eq_true (mem_dom.mpr ⟨q.sub z, z⟩)).symm
  | false => exact (decide_eq_false fun y => by rw [(mem_dom.mp y).2] at z; cases z).symm
theorem TDk.empty (K : PySem.W.Frag) (B : Bk) (H : Hp) : TDk K B H [] fun _ => none := ⟨List.nodup_nil, fun _ h => (by cases h), fun _ => rfl⟩
theorem valV_none {kvs : List (Key × V)} {k : Key} (h : k ∉ kvs.map (·.1)) : valV kvs k = none := by
  cases e : valV kvs k with
  | none => rfl
  | some v => exact absurd (valV_mem (by rw [e]; rfl)) h
theorem valV_app (k : Key) : ∀ (as bs : List (Key × V)), valV (as ++ bs) k = match valV as k with
    | some v => some v
    | none => valV bs k
  | [], bs => rfl
  | p :: as, bs => by
    by_cases e : p.1 = k
    · rw [List.cons_append, valV_pos e, valV_pos e]
    · rw [List.cons_append, valV_neg e, valV_neg e, valV_app k as bs]
/-- one more name -/
theorem TDk.put {K : PySem.W.Frag} {B : Bk} {H : Hp} {kvs : List (Key × V)} {f : TM} (h : TDk K B H kvs f) {n : Str} (hn : n ∈ B.names) (e : f n = none) {v : V} {t : Tr} (r : Rp K H v t.d) :
    putK kvs (Sum.inr n) v = kvs ++ [(Sum.inr n, v)] ∧ TDk K B H (kvs ++ [(Sum.inr n, v)]) (fun m => if m = n then some t else f m) := by
  have q := h.val n
  rw [e] at q
  have q : valV kvs (Sum.inr n) = none := q
  have hni : (Sum.inr n : Key) ∉ kvs.map (·.1) := fun z => by
    have : (valV kvs (Sum.inr n)).isSome = true := by
      rw [← valV_any]
      obtain ⟨p, hp, e'⟩ := List.mem_map.mp z
      exact List.any_eq_true.mpr ⟨p, hp, decide_eq_true e'⟩
    rw [q] at this
    cases this
  refine ⟨put_new hni, ?_, fun ky hk => ?_, fun m => ?_⟩
  · rw [List.map_append, List.nodup_append]
    refine ⟨h.nd, List.nodup_cons.mpr ⟨List.not_mem_nil, List.nodup_nil⟩, fun a ha b hb => ?_⟩
    rw [List.map_singleton, List.mem_singleton] at hb
    rw [hb]
    exact fun z => hni (by rw [z] at ha; exact ha)
  · rw [List.map_append, List.mem_append] at hk
    rcases hk with hk | hk
    · exact h.keys ky hk
    · rw [List.map_singleton, List.mem_singleton] at hk
      exact ⟨n, hn, hk⟩
  · rw [valV_app]
    by_cases z : m = n
    · rw [if_pos z, z, q]
      exact ⟨v, valV_pos rfl, r⟩
    · rw [if_neg z]
      have hm := h.val m
      cases y : valV kvs (Sum.inr m) with
      | some u => rw [y] at hm; exact hm
      | none =>
        rw [y] at hm
        have : valV [((Sum.inr n : Key), v)] (Sum.inr m) = none := valV_neg (fun z' => z (by injection z' with z'; exact z'.symm))
        dsimp only
        rw [this]
        exact hm
/-- by another dict of unlike names -/
theorem TDk.merge {K : PySem.W.Frag} {B : Bk} {H : Hp} {kvs ms : List (Key × V)} {f g : TM} (h : TDk K B H kvs f) (h' : TDk K B H ms g) (ap : ∀ n, (g n).isSome = true → f n = none) :
    mergeK kvs ms = kvs ++ ms ∧ TDk K B H (kvs ++ ms) (fun n => match f n with | some t => some t | none => g n) := by
  have nd : (kvs.map (·.1) ++ ms.map (·.1)).Nodup := by
    rw [List.nodup_append]
    refine ⟨h.nd, h'.nd, fun a ha b hb e => ?_⟩
    obtain ⟨n, _, en⟩ := h'.keys b hb
    have h1 : (g n).isSome = true := by
      rw [← h'.isSome, ← en, ← valV_any]
      obtain ⟨p, hp, e'⟩ := List.mem_map.mp hb
      exact List.any_eq_true.mpr ⟨p, hp, decide_eq_true e'⟩
    have h2 : (f n).isSome = true := by
      rw [← h.isSome, ← en, ← e, ← valV_any]
      obtain ⟨p, hp, e'⟩ := List.mem_map.mp ha
      exact List.any_eq_true.mpr ⟨p, hp, decide_eq_true e'⟩
    rw [ap n h1] at h2
    cases h2
  refine ⟨merge_nodup ms kvs nd, by rw [List.map_append]; exact nd, fun ky hk => ?_, fun n => ?_⟩
  · rw [List.map_append, List.mem_append] at hk
    exact hk.elim (h.keys ky) (h'.keys ky)
  · rw [valV_app]
    have q1 := h.val n
    have q2 := h'.val n
    cases e : f n with
    | some t =>
      rw [e] at q1
      obtain ⟨v, hv, r⟩ := q1
      rw [hv]
      exact ⟨v, rfl, r⟩
    | none =>
      rw [e] at q1
      rw [show valV kvs (Sum.inr n) = none from q1]
      exact q2
theorem TDk.isEmpty {K : PySem.W.Frag} {B : Bk} {H : Hp} {kvs : List (Key × V)} {f : TM} (h : TDk K B H kvs f) : kvs.isEmpty = true ↔ ∀ n, f n = none := by
  constructor
  · intro e n
    have : kvs = [] := List.isEmpty_iff.mp e
    subst this
    have q := h.val n
    cases z : f n with
    | none => rfl
    | some t =>
      rw [z] at q
      obtain ⟨v, hv, _⟩ := q
      cases hv
  · intro e
    cases kvs with
    | nil => rfl
    | cons p r =>
      obtain ⟨n, _, en⟩ := h.keys p.1 List.mem_cons_self
      have q := h.isSome n
      rw [e n, valV_pos en] at q
      cases q
/-! ### parts_by -/
def partD (f : TM) : Nd → D
  | .row _ _ _ => .non
  | .knd n _ _ _ => match f n with
    | some t => t.d
    | none => .non
theorem partD_flat (f : TM) (n : Nd) : (partD f n).flat = true := by
  cases n with
  | row r t m => rfl
  | knd n a t m =>
    unfold partD
    dsimp only
    split
    · exact Tr.flat _
    · rfl
theorem parts_ds (f : TM) : ∀ g : List Nd, (partsBy f g).ds = g.map (partD f)
  | [] => rfl
  | .row r t m :: g => by
    show D.non :: (partsBy f g).ds = _
    rw [parts_ds f g]
    rfl
  | .knd n a t m :: g => by
    have ih := parts_ds f g
    show (match f n with | some t => Trs.kid t (partsBy f g) | none => .row (partsBy f g)).ds = (match f n with | some t => t.d | none => .non) :: g.map (partD f)
    cases f n with
    | some t =>
      show t.d :: (partsBy f g).ds = _
      rw [ih]
    | none =>
      show D.non :: (partsBy f g).ds = _
      rw [ih]
abbrev sPartsBy : Stmt := top 19
def spPartsBy (K : PySem.W.Frag) : Sp := fun vs H Q _ => ∃ (v : V) (d : Addr) (B : Bk) (g : List Nd) (f : TM), vs = [v, .ref d] ∧ Rp K H v (gd g) ∧ g.length ≤ 3 ∧ TD K B H d f ∧ (∀ n a t m, Nd.knd n a t m ∈ g → (f n).isSome = true) ∧
  ∀ (p : Addr) (ys : List V) (H' : Hp), Same H H' → H p = none → H' p = some (.tup ys) → RpAll K H' ys (partsBy f g).ds → Q (.ref p) H'
section
variable {P : Program} {w : World} {K : PySem.W.Frag} {mg : Str → Option Value} {base : Heap}
theorem scPartsBy : FnScope ["ground", "trees", "need"] ["ground", "trees"] (defScope sPartsBy) := ⟨rfl, rfl, rfl, by decide +kernel, rfl, by decide +kernel, by decide +kernel⟩
theorem ok_partsBy {f : Addr} {fd : FuncData} {tk : Tok} (F : Fun K "parts_by" "parts_by" sPartsBy f fd) (gR : mg "ROW" = some (.str "row" tk)) (zt : mg "tuple" = none) : FnOk P w K mg base CX0 1 f fd ["ground", "trees"] (spPartsBy K) := by
  refine F.ok scPartsBy (fun vs H Q E h => ?_) (fun cdv A outer s H vs Q E hr h => ?_)
  · obtain ⟨v, d, B, g, f, rfl, _⟩ := h
    rfl
  · obtain ⟨v, d, B, g, f, rfl, rg, l3, td, hf, kQ⟩ := h
    have nd := scPartsBy.nd
    have hu0 := hu_of hr
    refine ⟨_, pss_one (ps_ret (pe_tupleOf (by rfl) zt (pe_lc (own := [("need", 2)]) (g := gName 2) (tt := tYes) (te := tIf (tTest (tOp rEq (tOp (rIxT K) (tVar 2) (tC (.int 0))) (tC (.str "row")))) (tC .non) (tDGet (tVar 1) (tOp (rIxT K) (tVar 2) (tC (.int 1))))) rfl nd (pi_tup (pv 0))
      (blkOk_by (own := [("need", 2)]) (N := ["ground", "trees", "need"]) (sc := defScope sPartsBy) (by decide +kernel)) (fun _ _ _ _ _ => pg_name (i := 2) nd rfl (Or.inl rfl)) (fun _ _ _ _ _ => pts_nil)
      (fun _ _ _ _ _ => pe_ifExp (pt_cmpR op_eq (pe_ix ix_tup (pv 2) pe_int (fun _ _ => rfl)) (pe_glob (v := .str "row") rfl gR ⟨_, rfl⟩) (nomark _)) pe_non (pe_dget hu0 (pv 1) (pe_ix ix_tup (pv 2) pe_int (fun _ _ => rfl)) (fun _ _ => rfl)))))), ?_⟩
    obtain ⟨ga, nvs, rfl, hga, rn⟩ := gd_rp rg
    have ln : nvs.length = g.length := by rw [rn.len, List.length_map]
    refine ⟨_, rfl, ga, rfl, ⟨_, SqT.of hga⟩, fun Dx nD => ?_⟩
    refine lc_map (K := K) (walk_tup (xs := nvs)) (g.map (partD f)) (by rw [List.length_map, ln]) (flat_map (partD_flat f) _) nD (by omega) (fun H' s => SqT.of (s _ _ hga)) ?_ ?_ gName_mono
    · rintro m e x H4 H5 Q' hm he s4 ⟨rfl, hx⟩ kk
      obtain ⟨n, hn, rx⟩ := at_of rn hx
      have ed : e = partD f n := by
        rw [List.getElem?_map, hn] at he
        exact (Option.some.inj he).symm
      subst ed
      have rx4 := rx.same s4
      obtain ⟨u, rfl, hu⟩ := nd_rp rx4
      refine ⟨rfl, _, rfl, u, _, 0, .str n.word, rfl, rfl, SqT.of hu, atI_nat (j := 0) (vs0 n), rfl, _, rfl, ?_⟩
      rw [isrow]
      cases n with
      | row r t m => exact iteT (kk _ _ (Same.refl _) .non)
      | knd n a t m' =>
        obtain ⟨T, hT⟩ := Option.isSome_iff_exists.mp (hf n a t m' (List.mem_of_getElem? hn))
        obtain ⟨kvs, hd, tk'⟩ := td.same s4
        have q := tk'.val n
        rw [hT] at q
        obtain ⟨tv, htv, rt⟩ := q
        refine iteF ⟨_, rfl, _, rfl, u, _, 1, .str n, rfl, rfl, SqT.of hu, atI_nat (j := 1) rfl, d, tv, rfl, (by rw [← htv]; exact DGet.k (k := Sum.inr n) hd), kk _ _ (Same.refl _) ?_⟩
        show Rp K H5 tv (match f n with | some t => t.d | none => .non)
        rw [hT]
        exact rt
    · intro H4 ys s4 hD r
      refine .inl ⟨Dx, ys, rfl, SqL.of hD, fun p np => ?_⟩
      have s5 : Same H4 (upd H4 p (.tup ys)) := same_new (Same.refl H4) np
      refine kQ p ys _ (s4.trans s5) (s4.free np) upd_same ?_
      rw [parts_ds]
      exact RpAll.same s5 r
end
end Gy

namespace Gy
open PySem L2 PySem.Spec PyProof.Rows
/-! ### clean_trees, clean_tree -/
theorem find_range_succ (p : Nat → Bool) (i : Nat) : (List.range (i + 1)).find? p = ((List.range i).find? p).or (if p i = true then some i else none) := by
  rw [List.range_succ, List.find?_append, List.find?_cons, List.find?_nil]
  cases p i <;> rfl
def newP (ok : List Nd → Bool) (mk : List Nd → Trs) (f : TM) (k : Kd) (i : Nat) : Option Tr := if (f k.name).isSome then none else ((List.range i).find? fun i => ok (k.gs.getD i [])).map fun i => .mk k.name i (mk (k.gs.getD i []))
def moreJ (ok : List Nd → Bool) (mk : List Nd → Trs) (f : TM) (ks : List Kd) : TM := fun n => match ks.find? fun k => decide (k.name = n) with
  | some k => newT ok mk f k
  | none => none
def mPart (ok : List Nd → Bool) (mk : List Nd → Trs) (f : TM) (ks : List Kd) (k : Kd) (i : Nat) : TM := fun n => if n = k.name then newP ok mk f k i else moreJ ok mk f ks n
theorem moreJ_nil (ok : List Nd → Bool) (mk : List Nd → Trs) (f : TM) : moreJ ok mk f [] = fun _ => none := rfl
theorem find_take_none {B : Bk} (okB : BOk B) {j : Nat} {k : Kd} (h : B.kinds[j]? = some k) : (B.kinds.take j).find? (fun k' => decide (k'.name = k.name)) = none := by
  rw [List.find?_eq_none]
  intro x hx e
  have e : x.name = k.name := of_decide_eq_true e
  have := okB.inj (List.mem_of_mem_take hx) (List.mem_of_getElem? h) e
  subst this
  have hn : B.names[j]? = some x.name := by unfold Bk.names; rw [List.getElem?_map, h]; rfl
  refine not_in_take okB.names.nd hn ?_
  unfold Bk.names
  rw [← List.map_take]
  exact List.mem_map_of_mem hx
theorem mPart_zero {B : Bk} (okB : BOk B) {ok : List Nd → Bool} {mk : List Nd → Trs} {f : TM} {j : Nat} {k : Kd} (h : B.kinds[j]? = some k) : mPart ok mk f (B.kinds.take j) k 0 = moreJ ok mk f (B.kinds.take j) := funext fun n => by
  unfold mPart
  split
  · rename_i e
    unfold newP moreJ
    rw [e, find_take_none okB h]
    split <;> rfl
  · rfl
theorem mPart_end {B : Bk} (okB : BOk B) {ok : List Nd → Bool} {mk : List Nd → Trs} {f : TM} {j : Nat} {k : Kd} (h : B.kinds[j]? = some k) : mPart ok mk f (B.kinds.take j) k k.gs.length = moreJ ok mk f (B.kinds.take (j + 1)) := funext fun n => by
  unfold mPart
  show _ = moreJ ok mk f (B.kinds.take (j + 1)) n
  unfold moreJ
  rw [take_snoc h, List.find?_append]
  by_cases e : n = k.name
  · rw [if_pos e, e, find_take_none okB h, List.find?_cons, decide_eq_true rfl]
    rfl
  · rw [if_neg e]
    cases z : (B.kinds.take j).find? fun k' => decide (k'.name = n) with
    | some u => rfl
    | none =>
      rw [List.find?_cons, decide_eq_false fun y => e y.symm]
      rfl
theorem newP_succ {ok : List Nd → Bool} {mk : List Nd → Trs} {f : TM} {k : Kd} {i : Nat} {g : List Nd} (hg : k.gs[i]? = some g) : newP ok mk f k (i + 1) = if (f k.name).isSome then none else match newP ok mk f k i with
    | some t => some t
    | none => if ok g = true then some (.mk k.name i (mk g)) else none := by
  unfold newP
  by_cases e : (f k.name).isSome = true
  · rw [if_pos e, if_pos e]
  · rw [if_neg e, if_neg e, if_neg e, find_range_succ, getD_of hg]
    cases z : (List.range i).find? fun i => ok (k.gs.getD i []) with
    | some u => rfl
    | none =>
      rw [Option.none_or]
      by_cases q : ok g = true
      · rw [if_pos q, Option.map_some, getD_of hg]
        show _ = if ok g = true then _ else _
        rw [if_pos q]
      · rw [if_neg q]
        show _ = if ok g = true then _ else _
        rw [if_neg q]
        rfl
theorem mPart_self {ok : List Nd → Bool} {mk : List Nd → Trs} {f : TM} {ks : List Kd} {k : Kd} {i : Nat} : mPart ok mk f ks k i k.name = newP ok mk f k i := if_pos rfl
theorem mPart_keep {ok : List Nd → Bool} {mk : List Nd → Trs} {f : TM} {ks : List Kd} {k : Kd} {i : Nat} (h : newP ok mk f k (i + 1) = newP ok mk f k i) : mPart ok mk f ks k (i + 1) = mPart ok mk f ks k i := funext fun n => by
  unfold mPart
  rw [h]
theorem mPart_put {ok : List Nd → Bool} {mk : List Nd → Trs} {f : TM} {ks : List Kd} {k : Kd} {i : Nat} {t : Tr} (h : newP ok mk f k (i + 1) = some t) : (fun m => if m = k.name then some t else mPart ok mk f ks k i m) = mPart ok mk f ks k (i + 1) := funext fun n => by
  unfold mPart
  rw [h]
  by_cases e : n = k.name
  · rw [if_pos e, if_pos e]
  · rw [if_neg e, if_neg e, if_neg e]
theorem newP_f {ok : List Nd → Bool} {mk : List Nd → Trs} {f : TM} {k : Kd} {i : Nat} (h : (f k.name).isSome = true) : newP ok mk f k i = none := if_pos h
theorem moreJ_f {ok : List Nd → Bool} {mk : List Nd → Trs} {f : TM} {ks : List Kd} {n : Str} (h : (moreJ ok mk f ks n).isSome = true) : f n = none := by
  unfold moreJ at h
  cases z : ks.find? fun k => decide (k.name = n) with
  | none => rw [z] at h; cases h
  | some k =>
    rw [z] at h
    have e : k.name = n := by
      have q := List.find?_some z
      exact of_decide_eq_true q
    dsimp only at h
    unfold newT at h
    rw [e] at h
    cases y : f n with
    | none => rfl
    | some t =>
      rw [y] at h
      cases h
theorem sweep_more (B : Bk) (ok : List Nd → Bool) (mk : List Nd → Trs) (f : TM) : (fun n => match f n with | some t => some t | none => moreJ ok mk f B.kinds n) = sweepT B ok mk f := rfl
theorem dom_lt {B : Bk} {f f' : TM} (ok : BOk B) (up : ∀ n, (f n).isSome = true → (f' n).isSome = true) {n : Str} (hn : n ∈ B.names) (h0 : f n = none) (h1 : (f' n).isSome = true) : (dom B f).length + 1 ≤ (dom B f').length := by
  have hnd : (n :: dom B f).Nodup := List.nodup_cons.mpr ⟨fun z => (by
    have := (mem_dom.mp z).2
    rw [h0] at this
    cases this), ok.names.nd.sublist List.filter_sublist⟩
  have q := nodup_sub hnd (m := dom B f') fun x hx => by
    rcases List.mem_cons.mp hx with e | e
    · rw [e]
      exact mem_dom.mpr ⟨hn, h1⟩
    · obtain ⟨q1, q2⟩ := mem_dom.mp e
      exact mem_dom.mpr ⟨q1, up x q2⟩
  exact q
theorem dom_le {B : Bk} (f : TM) : (dom B f).length ≤ B.kinds.length := by
  refine Nat.le_trans (List.length_filter_le _ _) ?_
  unfold Bk.names
  rw [List.length_map]
  exact Nat.le_refl _
abbrev sCleanTs : Stmt := top 20
def spCleanTs (K : PySem.W.Frag) : Sp := fun vs H Q _ => ∃ (p S : Addr) (B : Bk) (st : List Str), vs = [.ref p, .ref S] ∧ Rp K H (.ref p) B.d ∧ BOk B ∧ SqQ H S (st.map V.str) ∧
  ∀ (d : Addr) (H' : Hp), Same H H' → H d = none → TD K B H' d (itT B (rClean B st) B.kinds.length) → Q (.ref d) H'
abbrev sCleanT : Stmt := top 21
def optD : Option Tr → D
  | some t => t.d
  | none => .non
def spCleanT (K : PySem.W.Frag) : Sp := fun vs H Q _ => ∃ (p S : Addr) (B : Bk) (st : List Str) (n : Str), vs = [.ref p, .ref S, .str n] ∧ Rp K H (.ref p) B.d ∧ BOk B ∧ SqQ H S (st.map V.str) ∧
  ∀ (v : V) (H' : Hp), Same H H' → Rp K H' v (optD (itT B (rClean B st) B.kinds.length n)) → Q v H'
section
variable {P : Program} {w : World} {K : PySem.W.Frag} {mg : Str → Option Value} {base : Heap}
theorem scCleanTs : FnScope ["rulebook", "struck", "found", "grows", "more", "name", "keep", "bar", "grounds", "index", "ground"] ["rulebook", "struck"] (defScope sCleanTs) := ⟨rfl, rfl, rfl, by decide +kernel, rfl, by decide +kernel, by decide +kernel⟩
theorem ok_cleanTs {f : Addr} {fd : FuncData} (F : Fun K "clean_trees" "clean_trees" sCleanTs f fd) (ze : mg "enumerate" = none) (CC : Cal P w K mg base 6 "is_clean_by" ["rulebook", "ground", "found", "struck"] (spClean K)) (CP : Cal P w K mg base 1 "parts_by" ["ground", "trees"] (spPartsBy K)) : FnOk P w K mg base CX0 7 f fd ["rulebook", "struck"] (spCleanTs K) := by
  refine F.ok scCleanTs (fun vs H Q E h => ?_) (fun cdv A outer s H vs Q E hr h => ?_)
  · obtain ⟨p, S, B, st, rfl, _⟩ := h
    rfl
  · obtain ⟨p, S, B, st, rfl, rp, ok, hS, kQ⟩ := h
    have nd := scCleanTs.nd
    have hu := hr.units
    have hu0 := hu_of hr
    have huu : (A.deeper (envOfC "clean_trees" (defScope sCleanTs) s.heap.objs.size f cdv)).units < cLine := by omega
    have hr1 := hr.mono (by decide : 1 ≤ 6)
    have hz := sizeLine_eq
    refine ⟨_, pss_cons (ps_par (i := 2) (j := 3) (by rfl) nd rfl rfl (by decide) rfl rfl (pa_cons pe_dnewK (pa_cons pe_bl pa_nil)) (by rfl))
      (pss_cons (ps_while PassesOwn.never (pt_val (pv 3))
        (pss_cons (ps_set (i := 4) nd rfl (Or.inl rfl) pe_dnewK)
        (pss_cons (ps_for PassesOwn.never rfl (pi_tup (pe_ix ix_tup (pv 0) pe_int (fun _ _ => rfl))) (pg_tup rfl (pgs_cons (pg_name (i := 5) nd rfl (Or.inl rfl)) (pgs_cons (pg_name (i := 6) nd rfl (Or.inl rfl)) (pgs_cons (pg_name (i := 7) nd rfl (Or.inl rfl)) (pgs_cons (pg_name (i := 8) nd rfl (Or.inl rfl)) pgs_nil)))))
          (pss_one (ps_for PassesOwn.never rfl (pi_enumT (by rfl) ze (pa_cons (pv 8) pa_nil)) (pg_tup rfl (pgs_cons (pg_name (i := 9) nd rfl (Or.inl rfl)) (pgs_cons (pg_name (i := 10) nd rfl (Or.inl rfl)) pgs_nil)))
            (pss_one (ps_if (PW.pt (pw_and (pt_cmpR (op_notIn_any hu0) (pv 5) (pv 2) (by rfl)) (pw_and (pt_cmpR (op_notIn_any hu0) (pv 5) (pv 4) (by rfl)) (pw_and1 (pt_val (pe_cal CC hr rfl (pa_cons (pv 0) (pa_cons (pv 10) (pa_cons (pv 2) (pa_cons (pv 1) pa_nil))))))))))
              (pss_one (ps_asg (pe_tup (pa_cons (pv 5) (pa_cons (pv 9) (pa_cons (pe_cal CP hr1 rfl (pa_cons (pv 10) (pa_cons (pv 2) pa_nil))) pa_nil)))) (pg_sub (pv 4) (pv 5) (set_dict hu0)))) pss_nil)))))
        (pss_cons (ps_set (i := 3) nd rfl (Or.inl rfl) (pe_cmpR (op_ne_dict0 huu) (pv 4) pe_dnewK (nomark _)))
        (pss_one (ps_expr (pe_dupd (pv 2) (pv 4) ⟨rfl, rfl, rfl, rfl⟩)))))))
      (pss_one (ps_ret (pv 2)))), ?_⟩
    have lb := ok.len
    have R := right_clean B st
    refine fun Fd nFd => ⟨_, _, rfl, ?_⟩
    have s1 : Same H (upd H Fd (.dK [])) := same_new (Same.refl H) nFd
    have h1 : upd H Fd (.dK []) Fd = some (.dK []) := upd_same
    generalize upd H Fd (.dK []) = H1 at s1 h1
    try dsimp only
    show tSeq _ _ _ [some (.ref p), some (.ref S), some (.ref Fd), some (.bl true), none, none, none, none, none, none, none] H1
    refine ⟨fun m σ' H' => ∃ (gr : Bool) (t : Nat), (∃ x4 x5 x6 x7 x8 x9 x10, σ' = [some (.ref p), some (.ref S), some (.ref Fd), some (.bl gr), x4, x5, x6, x7, x8, x9, x10]) ∧ Ext Fd H1 H' ∧ TD K B H' Fd (itT B (rClean B st) t) ∧ (gr = true → t ≤ (dom B (itT B (rClean B st) t)).length) ∧ (gr = false → itT B (rClean B st) t = itT B (rClean B st) B.kinds.length) ∧ m = (if gr = true then B.kinds.length + 1 - t else 0),
      ⟨_, true, 0, ⟨_, _, _, _, _, _, _, rfl⟩, Ext.refl' Fd H1, ⟨[], h1, TDk.empty K B H1⟩, fun _ => Nat.zero_le _, (fun z => Bool.noConfusion z), rfl⟩, ?_⟩
    rintro m σ' H5 ⟨gr, t, ⟨x4, x5, x6, x7, x8, x9, x10, rfl⟩, e5, td5, hgt, hgf, rfl⟩
    have s05 := Ext.same s1 e5 nFd
    refine ⟨_, rfl, gr, rfl, ?_⟩
    cases gr with
    | false =>
      refine iteF ⟨_, rfl, kQ Fd H5 s05 nFd ?_⟩
      rw [← hgf rfl]
      exact td5
    | true =>
      have ht := hgt rfl
      have hdl := dom_le (B := B) (itT B (rClean B st) t)
      have tl : t < 99 := by omega
      generalize hf : itT B (rClean B st) t = f at td5 ht hdl
      refine iteT ⟨fun σ' H' => ∃ (gr' : Bool), (∃ x4 x5 x6 x7 x8 x9 x10, σ' = [some (.ref p), some (.ref S), some (.ref Fd), some (.bl gr'), x4, x5, x6, x7, x8, x9, x10]) ∧ Ext Fd H1 H' ∧ TD K B H' Fd (itT B (rClean B st) (t + 1)) ∧ (gr' = true → t + 1 ≤ (dom B (itT B (rClean B st) (t + 1))).length) ∧ (gr' = false → itT B (rClean B st) (t + 1) = itT B (rClean B st) B.kinds.length),
        fun σ' H' ⟨gr', h1, h2, h3, h4, h5⟩ => ⟨if gr' = true then B.kinds.length + 1 - (t + 1) else 0, by
          cases gr' with
          | true => show B.kinds.length + 1 - (t + 1) < B.kinds.length + 1 - t; omega
          | false => show 0 < B.kinds.length + 1 - t; omega, gr', t + 1, h1, h2, h3, h4, h5, rfl⟩, ?_⟩
      refine fun Dm nDm => ?_
      obtain ⟨kvs, hFd5, tk5⟩ := td5
      have FD : Fd ≠ Dm := fun z => by rw [z, nDm] at hFd5; cases hFd5
      have s6 : Same H5 (upd H5 Dm (.dK [])) := same_new (Same.refl H5) nDm
      have h6 : upd H5 Dm (.dK []) Dm = some (.dK []) := upd_same
      generalize upd H5 Dm (.dK []) = H6 at s6 h6
      have rp5 := rp.same s05
      obtain ⟨pr, pk, ks, hp, hpr, hpk, rks⟩ := Bk.rp_rows rp5
      have lk : ks.length = B.kinds.length := by rw [rks.len, List.length_map]
      try dsimp only
      show tSeq _ _ _ [some (.ref p), some (.ref S), some (.ref Fd), some (.bl true), some (.ref Dm), x5, x6, x7, x8, x9, x10] H6
      refine ⟨_, rfl, p, _, 1, .ref pk, rfl, rfl, SqT.of (s6 _ _ hp), atI_nat (j := 1) rfl, pk, rfl, ⟨_, SqT.of (s6 _ _ hpk)⟩, for_tup (xs := ks) (fun j σ' H' => (∃ x5 x6 x7 x8 x9 x10, σ' = [some (.ref p), some (.ref S), some (.ref Fd), some (.bl true), some (.ref Dm), x5, x6, x7, x8, x9, x10]) ∧ Same H5 H' ∧ TD K B H' Dm (moreJ (rClean B st (dom B f)) (partsBy f) f (B.kinds.take j)))
        ⟨⟨_, _, _, _, _, _, rfl⟩, s6, [], h6, TDk.empty K B H6⟩ (fun j σ' H' _ z => SqT.of (z.2.1 _ _ hpk)) ?_ ?_⟩
      · rintro j x σ' H7 hj ⟨⟨x5, x6, x7, x8, x9, x10, rfl⟩, s7, td7⟩
        obtain ⟨kd, hk, rk⟩ := at_of rks hj
        have kin : kd ∈ B.kinds := List.mem_of_getElem? hk
        obtain ⟨a, ga, gvs, rfl, ha, hga, rg⟩ := Kd.rp rk
        have okk := ok.kinds kd kin
        have lg4 := okk.len
        have knm : kd.name ∈ B.names := List.mem_map_of_mem kin
        have lgv : gvs.length = kd.gs.length := by rw [rg.len, List.length_map]
        refine ⟨a, _, rfl, SqT.of (s7 _ _ ha), rfl, _, _, rfl, _, _, rfl, _, _, rfl, _, _, rfl, rfl, ?_⟩
        try dsimp only
        show tFor _ _ _ _ [some (.ref p), some (.ref S), some (.ref Fd), some (.bl true), some (.ref Dm), some (.str kd.name), some (.int kd.keep), some (.int kd.bar), some (.ref ga), x9, x10] H7
        rw [← mPart_zero ok hk] at td7
        refine ⟨_, rfl, ga, gvs, rfl, SqT.of (s7 _ _ hga), for_it (walk_enumT (xs := gvs)) (fun i σ' H' => (∃ x9 x10, σ' = [some (.ref p), some (.ref S), some (.ref Fd), some (.bl true), some (.ref Dm), some (.str kd.name), some (.int kd.keep), some (.int kd.bar), some (.ref ga), x9, x10]) ∧ Same H5 H' ∧ TD K B H' Dm (mPart (rClean B st (dom B f)) (partsBy f) f (B.kinds.take j) kd i))
          ⟨⟨_, _, rfl⟩, s7, td7⟩ (fun i σ' H' _ z => SqT.of (z.2.1 _ _ hga)) ?_ ?_⟩
        · rintro i x σ' H' H9 hi ⟨⟨x9, x10, rfl⟩, s8, td8⟩ ⟨T, u, v, rfl, nT, rfl, hu', hv⟩
          cases hu'
          obtain ⟨gr, hgr, rx⟩ := at_of rg hv
          have gin := okk.gs gr (List.mem_of_getElem? hgr)
          have s9 : Same H' (upd H' T (.tup [.int (i : Nat), v])) := same_new (Same.refl H') nT
          have hT : upd H' T (.tup [.int (i : Nat), v]) T = some (.tup [.int (i : Nat), v]) := upd_same
          generalize upd H' T (.tup [.int (i : Nat), v]) = H9 at s9 hT
          have td9 := td8.same s9
          have s59 := s8.trans s9
          have s09 := s05.trans s59
          have rx9 := rx.same s59
          have il := (List.getElem?_eq_some_iff.mp hgr).1
          refine ⟨T, _, rfl, SqT.of hT, rfl, _, _, rfl, _, _, rfl, rfl, ?_⟩
          have ns := newP_succ (ok := rClean B st (dom B f)) (mk := partsBy f) (f := f) hgr
          obtain ⟨ms, hDm9, tk9⟩ := td9
          have tf9 : TD K B H9 Fd f := ⟨kvs, s59 _ _ hFd5, tk5.tups (Tups.same s59)⟩
          have hFd9 := s59 _ _ hFd5
          have v5 := tk5.isSome kd.name
          have v9 := tk9.isSome kd.name
          rw [mPart_self] at v9
          try dsimp only
          show tIfS _ _ _ _ [some (.ref p), some (.ref S), some (.ref Fd), some (.bl true), some (.ref Dm), some (.str kd.name), some (.int kd.keep), some (.int kd.bar), some (.ref ga), some (.int (i : Nat)), some v] H9
          refine ⟨_, rfl, _, rfl, .inr ⟨kd.name, Fd, kvs, rfl, rfl, .inl hFd9, _, rfl, ?_⟩⟩
          show if (!(valV kvs (Sum.inr kd.name)).isSome) = true then _ else _
          rw [v5]
          refine ite2 (fun e1 => ?_) fun e1 => ?_
          · have e1 : (f kd.name).isSome = false := by simpa using e1
            refine ⟨_, rfl, _, rfl, .inr ⟨kd.name, Dm, ms, rfl, rfl, .inl hDm9, _, rfl, ?_⟩⟩
            show if (!(valV ms (Sum.inr kd.name)).isSome) = true then _ else _
            rw [v9]
            rw [if_neg (by rw [e1]; decide)] at ns
            refine ite2 (fun e2 => ?_) fun e2 => ?_
            · have e2 : newP (rClean B st (dom B f)) (partsBy f) f kd i = none := by simpa using e2
              rw [e2] at ns
              dsimp only at ns
              refine ⟨_, rfl, _, rfl, _, rfl, _, rfl, p, Fd, S, v, B, gr, dom B f, st, rfl, rp.same s09, ok, rx9, gin, tf9.inC, hS.same s09, fun H10 s10 => ⟨_, rfl, ?_⟩⟩
              refine ite2 (fun e3 => ?_) fun e3 => ?_
              · have e3 : rClean B st (dom B f) gr = true := e3
                rw [if_pos e3] at ns
                have hmet := R.met _ _ e3
                refine ⟨_, rfl, _, rfl, _, rfl, _, rfl, v, Fd, B, gr, f, rfl, rx9.same s10, gin.len, tf9.same s10, fun n a t m hn => (let ⟨T, hT⟩ := (met_dom hmet hn).2.1; by rw [hT]; rfl), fun q ys H11 s11 nq hq rq => ?_⟩
                refine ⟨by show 3 ≤ sizeLine; decide, fun tt ntt => ?_⟩
                have s12 : Same H11 (upd H11 tt (.tup [.str kd.name, .int (i : Nat), .ref q])) := same_new (Same.refl H11) ntt
                have h12 : upd H11 tt (.tup [.str kd.name, .int (i : Nat), .ref q]) tt = some (.tup [.str kd.name, .int (i : Nat), .ref q]) := upd_same
                generalize upd H11 tt (.tup [.str kd.name, .int (i : Nat), .ref q]) = H12 at s12 h12
                have s9_12 := (s10.trans s11).trans s12
                have hDm12 := s9_12 _ _ hDm9
                have lm := tk9.len ok
                have rt : Rp K H12 (.ref tt) (Tr.mk kd.name i (partsBy f gr)).d := .tup h12 (.cons (.str _) (.cons (.int _) (.cons (.tup (s12 _ _ hq) (RpAll.same s12 rq)) .nil)))
                obtain ⟨pe, tkp⟩ := (tk9.tups (Tups.same s9_12)).put knm (by rw [mPart_self, e2]) rt
                have T13 : Tups H12 (upd H12 Dm (.dK (putK ms (Sum.inr kd.name) (.ref tt)))) := fun b xs hb => by
                  rw [upd_ne (fun z => by rw [z, hDm12] at hb; cases hb)]
                  exact hb
                refine ⟨_, rfl, _, rfl, Dm, _, rfl, DPut.k (k := Sum.inr kd.name) hDm12 (by omega), ⟨_, _, rfl⟩, ?_, ?_⟩
                · exact same_put (s59.trans s9_12) nDm
                · rw [← mPart_put ns]
                  rw [pe] at T13 ⊢
                  exact ⟨_, upd_same, tkp.tups T13⟩
              · rw [if_neg (by exact e3)] at ns
                refine ⟨⟨_, _, rfl⟩, s59.trans s10, ?_⟩
                rw [mPart_keep (by rw [ns, e2])]
                exact ⟨ms, s10 _ _ hDm9, tk9.tups (Tups.same s10)⟩
            · have e2 : (newP (rClean B st (dom B f)) (partsBy f) f kd i).isSome = true := Option.isSome_iff_ne_none.mpr (by simpa using e2)
              refine ⟨⟨_, _, rfl⟩, s59, ?_⟩
              obtain ⟨T', hT'⟩ := Option.isSome_iff_exists.mp e2
              rw [mPart_keep (by rw [ns, hT'])]
              exact ⟨ms, hDm9, tk9⟩
          · have e1 : (f kd.name).isSome = true := Option.isSome_iff_ne_none.mpr (by simpa using e1)
            refine ⟨⟨_, _, rfl⟩, s59, ?_⟩
            rw [mPart_keep (by rw [newP_f e1, newP_f e1])]
            exact ⟨ms, hDm9, tk9⟩
        · rintro σ' H' ⟨⟨x9, x10, rfl⟩, s8, td8⟩
          rw [lgv, mPart_end ok hk] at td8
          exact ⟨⟨_, _, _, _, _, _, rfl⟩, s8, td8⟩
      · rintro σ' H7 ⟨⟨x5, x6, x7, x8, x9, x10, rfl⟩, s7, td7⟩
        rw [lk, List.take_length] at td7
        obtain ⟨ms, hDm7, tk7⟩ := td7
        try dsimp only
        show tSeq _ _ _ [some (.ref p), some (.ref S), some (.ref Fd), some (.bl true), some (.ref Dm), x5, x6, x7, x8, x9, x10] H7
        refine ⟨_, rfl, fun E0 nE0 => ?_⟩
        have s8 : Same H7 (upd H7 E0 (.dK [])) := same_new (Same.refl H7) nE0
        have h8 : upd H7 E0 (.dK []) E0 = some (.dK []) := upd_same
        generalize upd H7 E0 (.dK []) = H8 at s8 h8
        have hDm8 := s8 _ _ hDm7
        have s58 := s7.trans s8
        have hFd8 := s58 _ _ hFd5
        have tk8 := tk7.tups (Tups.same s8)
        obtain ⟨me, tkm⟩ := (tk5.tups (Tups.same s58)).merge tk8 fun n hn => moreJ_f hn
        have l1 := tk5.len ok
        have l2 := tk8.len ok
        refine ⟨Dm, E0, ms, rfl, rfl, hDm8, h8, ?_⟩
        refine ⟨_, rfl, Fd, rfl, .inl ⟨_, .inl hFd8⟩, _, rfl, Dm, kvs, ms, rfl, hFd8, hDm8, FD, by omega, ?_⟩
        have TF : Tups H8 (upd H8 Fd (.dK (mergeK kvs ms))) := fun b xs hb => by
          rw [upd_ne (fun z => by rw [z, hFd8] at hb; cases hb)]
          exact hb
        have es : itT B (rClean B st) (t + 1) = sweepT B (rClean B st (dom B f)) (partsBy f) f := by rw [← hf]; rfl
        refine ⟨!ms.isEmpty, ⟨_, _, _, _, _, _, _, rfl⟩, (e5.trans' fun a o _ h => s58 a o h).trans' (Ext.put (Ext.refl' Fd H8)), ?_, fun z => ?_, fun z => ?_⟩
        · rw [me] at TF ⊢
          refine ⟨_, upd_same, ?_⟩
          rw [es, ← sweep_more]
          exact tkm.tups TF
        · have hne : ¬ ∀ n, moreJ (rClean B st (dom B f)) (partsBy f) f B.kinds n = none := fun y => by
            rw [tk8.isEmpty.mpr y] at z
            cases z
          obtain ⟨n, hn⟩ := Classical.not_forall.mp hne
          have hs : (moreJ (rClean B st (dom B f)) (partsBy f) f B.kinds n).isSome = true := by
            cases y : moreJ (rClean B st (dom B f)) (partsBy f) f B.kinds n with
            | none => exact absurd y hn
            | some _ => rfl
          have h0 := moreJ_f hs
          rw [es]
          refine Nat.le_trans (Nat.succ_le_succ ht) (dom_lt ok (fun n' hn' => ?_) (tk8.sub hs) h0 ?_)
          · obtain ⟨T, hT⟩ := Option.isSome_iff_exists.mp hn'
            rw [sweep_some hT]
            rfl
          · rw [← sweep_more]
            try dsimp only
            rw [h0]
            exact hs
        · have ha := tk8.isEmpty.mp (by simpa using z)
          have e : itT B (rClean B st) (t + 1) = itT B (rClean B st) t := by
            rw [es, hf, ← sweep_more]
            refine funext fun n => ?_
            try dsimp only
            rw [ha n]
            cases f n <;> rfl
          rw [e]
          exact itT_stop ok R tl e
theorem scCleanT : FnScope ["rulebook", "struck", "name"] ["rulebook", "struck", "name"] (defScope sCleanT) := ⟨rfl, rfl, rfl, by decide +kernel, rfl, by decide +kernel, by decide +kernel⟩
theorem TD.get {B : Bk} {H : Hp} {d : Addr} {f : TM} (h : TD K B H d f) (n : Str) : ∃ o, DGet H d (.str n) o ∧ Rp K H (o.getD .non) (optD (f n)) := by
  obtain ⟨kvs, e, q⟩ := h
  refine ⟨valV kvs (Sum.inr n), DGet.k (k := Sum.inr n) e, ?_⟩
  have z := q.val n
  cases y : f n with
  | none =>
    rw [y] at z
    rw [show valV kvs (Sum.inr n) = none from z]
    exact .non
  | some t =>
    rw [y] at z
    obtain ⟨v, hv, r⟩ := z
    rw [hv]
    exact r
theorem TD.isD {B : Bk} {H : Hp} {d : Addr} {f : TM} (h : TD K B H d f) : IsD H d := let ⟨kvs, e, _⟩ := h; .inl ⟨kvs, .inl e⟩
theorem ok_cleanT {f : Addr} {fd : FuncData} (F : Fun K "clean_tree" "clean_tree" sCleanT f fd) (CT : Cal P w K mg base 7 "clean_trees" ["rulebook", "struck"] (spCleanTs K)) : FnOk P w K mg base CX0 8 f fd ["rulebook", "struck", "name"] (spCleanT K) := by
  refine F.ok scCleanT (fun vs H Q E h => ?_) (fun cdv A outer s H vs Q E hr h => ?_)
  · obtain ⟨p, S, B, st, n, rfl, _⟩ := h
    rfl
  · obtain ⟨p, S, B, st, n, rfl, rp, ok, hS, kQ⟩ := h
    have hu0 := hu_of hr
    refine ⟨_, pss_one (ps_ret (pe_dget1 hu0 (pe_cal CT hr rfl (pa_cons (pv 0) (pa_cons (pv 1) pa_nil))) (pv 2) ⟨rfl, rfl, rfl, rfl⟩)), ?_⟩
    refine ⟨_, rfl, _, rfl, p, S, B, st, rfl, rp, ok, hS, fun d H' s nd td => ⟨d, rfl, td.isD, _, rfl, ?_⟩⟩
    obtain ⟨o, g, r⟩ := td.get n
    exact ⟨o, g, kQ _ H' s r⟩
end
end Gy

namespace Gy
open PySem L2 PySem.Spec PyProof.Rows
/-! ### old_parts -/
theorem cut_drop (xs : List V) (m : Nat) : cutV xs (some (m : Int)) none = xs.drop m := by
  unfold cutV
  rw [show HT.sIx xs.length xs.length none = xs.length from rfl, HT.sIx_nat]
  rcases Nat.le_total m xs.length with h | h
  · rw [Nat.min_eq_left h, List.take_of_length_le (by rw [List.length_drop]; omega)]
  · rw [Nat.min_eq_right h, Nat.sub_self, List.take_zero, List.drop_of_length_le h]
theorem RpAll.drop {K : PySem.W.Frag} {H : Hp} : ∀ (n : Nat) {vs : List V} {ds : List D}, RpAll K H vs ds → RpAll K H (vs.drop n) (ds.drop n)
  | 0, _, _, r => r
  | n + 1, _, _, .nil => .nil
  | n + 1, _, _, .cons _ r => RpAll.drop n r
def okE (B : Bk) (st : List Str) (e : TM) (g : List Nd) : Bool := g.any (onS st) || g.any (oldN (dom B e))
def oldPs (B : Bk) (st : List Str) (f e : TM) (g : List Nd) : Option Trs := if okE B st e g = true then some (partsO st f e g) else none
def psD : Option Trs → D
  | some ps => .tup ps.ds
  | none => .non
/-- the first old place -/
theorem partsE_at {f e : TM} : ∀ {g : List Nd} {j : Nat} {n : Str} {a t m : Int} {T : Tr}, (∀ n a t m, Nd.knd n a t m ∈ g → (f n).isSome = true) → (∀ i n a t m, i < j → g[i]? = some (Nd.knd n a t m) → e n = none) → g[j]? = some (Nd.knd n a t m) → e n = some T →
    (partsE f e g).ds = (partsBy f g).ds.take j ++ T.d :: (partsBy f g).ds.drop (j + 1)
  | .row r t' m' :: g, 0, n, a, t, m, T, _, _, h, _ => by cases h
  | .row r t' m' :: g, j + 1, n, a, t, m, T, hf, hj, h, he => by
    have ih := partsE_at (f := f) (e := e) (g := g) (j := j) (fun n a t m hn => hf n a t m (List.mem_cons_of_mem _ hn)) (fun i n a t m hi hg => hj (i + 1) n a t m (by omega) hg) h he
    show D.non :: (partsE f e g).ds = D.non :: _
    rw [ih]
    rfl
  | .knd n' a' t' m' :: g, 0, n, a, t, m, T, hf, _, h, he => by
    cases h
    obtain ⟨U, hU⟩ := Option.isSome_iff_exists.mp (hf n' a' t' m' List.mem_cons_self)
    have e1 : partsE f e (.knd n' a' t' m' :: g) = .kid T (partsBy f g) := by
      show (match e n' with | some t => Trs.kid t (partsBy f g) | none => _) = _
      rw [he]
    have e2 : partsBy f (.knd n' a' t' m' :: g) = .kid U (partsBy f g) := by
      show (match f n' with | some t => Trs.kid t (partsBy f g) | none => _) = _
      rw [hU]
    rw [e1, e2]
    rfl
  | .knd n' a' t' m' :: g, j + 1, n, a, t, m, T, hf, hj, h, he => by
    have ih := partsE_at (f := f) (e := e) (g := g) (j := j) (fun n a t m hn => hf n a t m (List.mem_cons_of_mem _ hn)) (fun i n a t m hi hg => hj (i + 1) n a t m (by omega) hg) h he
    obtain ⟨U, hU⟩ := Option.isSome_iff_exists.mp (hf n' a' t' m' List.mem_cons_self)
    have h0 := hj 0 n' a' t' m' (by omega) rfl
    have e1 : partsE f e (.knd n' a' t' m' :: g) = .kid U (partsE f e g) := by
      show (match e n' with | some t => Trs.kid t (partsBy f g) | none => match f n' with | some t => Trs.kid t (partsE f e g) | none => _) = _
      rw [h0, hU]
    have e2 : partsBy f (.knd n' a' t' m' :: g) = .kid U (partsBy f g) := by
      show (match f n' with | some t => Trs.kid t (partsBy f g) | none => _) = _
      rw [hU]
    rw [e1, e2]
    show U.d :: (partsE f e g).ds = U.d :: _
    rw [ih]
    rfl
abbrev sOldParts : Stmt := top 22
def spOldParts (K : PySem.W.Frag) : Sp := fun vs H Q _ => ∃ (v : V) (S Fd Ed : Addr) (B : Bk) (g : List Nd) (st : List Str) (f e : TM), vs = [v, .ref S, .ref Fd, .ref Ed] ∧ Rp K H v (gd g) ∧ g.length ≤ 3 ∧ SqQ H S (st.map V.str) ∧ TD K B H Fd f ∧ TD K B H Ed e ∧ (∀ n a t m, Nd.knd n a t m ∈ g → (f n).isSome = true) ∧
  ∀ (x : V) (H' : Hp), Same H H' → Rp K H' x (psD (oldPs B st f e g)) → Q x H'
section
variable {P : Program} {w : World} {K : PySem.W.Frag} {mg : Str → Option Value} {base : Heap}
theorem scOldParts : FnScope ["ground", "struck", "trees", "olds", "parts", "need", "place"] ["ground", "struck", "trees", "olds"] (defScope sOldParts) := ⟨rfl, rfl, rfl, by decide +kernel, rfl, by decide +kernel, by decide +kernel⟩
theorem ok_oldParts {f : Addr} {fd : FuncData} {tk : Tok} (F : Fun K "old_parts" "old_parts" sOldParts f fd) (gR : mg "ROW" = some (.str "row" tk)) (ze : mg "enumerate" = none) (za : mg "any" = none) (CP : Cal P w K mg base 1 "parts_by" ["ground", "trees"] (spPartsBy K)) (CO : Cal P w K mg base 1 "is_on_struck" ["need", "struck"] (spOnS K)) : FnOk P w K mg base CX0 2 f fd ["ground", "struck", "trees", "olds"] (spOldParts K) := by
  refine F.ok scOldParts (fun vs H Q E h => ?_) (fun cdv A outer s H vs Q E hr h => ?_)
  · obtain ⟨v, S, Fd, Ed, B, g, st, f, e, rfl, _⟩ := h
    rfl
  · obtain ⟨v, S, Fd, Ed, B, g, st, f, e, rfl, rg, l3, hS, tdF, tdE, hf, kQ⟩ := h
    have nd := scOldParts.nd
    have hu0 := hu_of hr
    have hz := sizeLine_eq
    refine ⟨_, pss_cons (ps_set (i := 4) nd rfl (Or.inl rfl) (pe_cal CP hr rfl (pa_cons (pv 0) (pa_cons (pv 2) pa_nil))))
      (pss_cons (ps_if (pt_val (pe_callB (cr_any rfl) (by rfl) za PyProof.Rows.boot_any (pa_cons (pe_lc (own := [("need", 5)]) (g := gName 5) (tt := tYes) (te := tCall (spOnS K) [] E0 (tCons (tVar 5) (tCons (tVar 1) tNil))) rfl nd (pi_tup (pv 0))
          (blkOk_by (own := [("need", 5)]) (N := ["ground", "struck", "trees", "olds", "parts", "need", "place"]) (sc := defScope sOldParts) (by decide +kernel)) (fun _ _ _ _ _ => pg_name (i := 5) nd rfl (Or.inl rfl)) (fun _ _ _ _ _ => pts_nil) (fun _ _ _ _ _ => pe_cal CO hr rfl (pa_cons (pv 5) (pa_cons (pv 1) pa_nil)))) pa_nil)))
        (pss_one (ps_ret (pv 4))) pss_nil)
      (pss_cons (ps_for PassesOwn.never rfl (pi_enumT (by rfl) ze (pa_cons (pv 0) pa_nil)) (pg_tup rfl (pgs_cons (pg_name (i := 6) nd rfl (Or.inl rfl)) (pgs_cons (pg_name (i := 5) nd rfl (Or.inl rfl)) pgs_nil)))
        (pss_one (ps_if (PW.pt (pw_and (pt_cmpR op_ne (pe_ix ix_tup (pv 5) pe_int (fun _ _ => rfl)) (pe_glob (v := .str "row") rfl gR ⟨_, rfl⟩) (nomark _)) (pw_and1 (pt_cmpR (op_in_any hu0) (pe_ix ix_tup (pv 5) pe_int (fun _ _ => rfl)) (pv 3) (by rfl)))))
          (pss_one (ps_ret (pe_tup (StX.pa_star (pe_slice sl_tup (pv 4) po_none (po_some (pv 6))) (pa_cons (pe_dget hu0 (pv 3) (pe_ix ix_tup (pv 5) pe_int (fun _ _ => rfl)) (fun _ _ => rfl)) (StX.pa_star (pe_slice sl_tup (pv 4) (po_some (pe_op op_add (pv 6) pe_int)) po_none) pa_nil)))))) pss_nil)))
      (pss_one (ps_ret pe_non)))), ?_⟩
    obtain ⟨ga, nvs, rfl, hga, rn⟩ := gd_rp rg
    have ln : nvs.length = g.length := by rw [rn.len, List.length_map]
    refine ⟨_, rfl, _, rfl, .ref ga, Fd, B, g, f, rfl, rg, l3, tdF, hf, fun A' ys H1 s1 nA hA rys => ?_⟩
    have lys : ys.length = g.length := by rw [rys.len, parts_ds, List.length_map]
    try dsimp only
    show tSeq _ _ _ [some (.ref ga), some (.ref S), some (.ref Fd), some (.ref Ed), some (.ref A'), none, none] H1
    have hga1 := s1 _ _ hga
    refine ⟨_, rfl, ga, rfl, ⟨_, SqT.of hga1⟩, fun Dx nD => ?_⟩
    refine lc_map (K := K) (walk_tup (xs := nvs)) ((g.map (onS st)).map D.bl) (by rw [List.length_map, List.length_map, ln]) (bl_flat _) nD (by omega) (fun H' s => SqT.of (s _ _ hga1)) ?_ ?_ gName_mono
    · rintro m d x H4 H5 Q' hm hd s4 ⟨rfl, hx⟩ kk
      obtain ⟨n, hn, rx⟩ := at_of rn hx
      have ed : d = .bl (onS st n) := by
        rw [List.map_map, List.getElem?_map, hn] at hd
        exact (Option.some.inj hd).symm
      subst ed
      exact ⟨rfl, _, rfl, _, rfl, x, S, n, st, rfl, rx.same (s1.trans s4), hS.same (s1.trans s4), kk _ _ (Same.refl _) (.bl _)⟩
    · intro H4 zs s4 hD r
      have e' := rp_bls r
      subst e'
      have s04 := s1.trans s4
      have hA4 := s4 _ _ hA
      have rys4 := RpAll.same s4 rys
      refine ⟨Dx, g.map (onS st), rfl, SqL.of hD, _, rfl, ?_⟩
      rw [List.any_map]
      refine ite2 (fun e1 => ?_) fun e1 => ?_
      · have e1 : g.any (onS st) = true := e1
        refine ⟨_, rfl, kQ _ H4 s04 ?_⟩
        unfold oldPs okE partsO
        rw [e1, Bool.true_or, if_pos rfl, if_pos rfl]
        exact .tup hA4 rys4
      · have e1 : ¬ g.any (onS st) = true := e1
        refine next_open ?_
        try dsimp only
        show tSeq _ _ _ [some (.ref ga), some (.ref S), some (.ref Fd), some (.ref Ed), some (.ref A'), none, none] H4
        have hga4 := s4 _ _ hga1
        refine ⟨_, rfl, ga, nvs, rfl, SqT.of hga4, for_it (walk_enumT (xs := nvs)) (fun j σ' H' => (∃ x5 x6, σ' = [some (.ref ga), some (.ref S), some (.ref Fd), some (.ref Ed), some (.ref A'), x5, x6]) ∧ Same H4 H' ∧ ∀ i n a t m, i < j → g[i]? = some (Nd.knd n a t m) → e n = none)
          ⟨⟨_, _, rfl⟩, Same.refl H4, fun i n a t m hi => absurd hi (Nat.not_lt_zero i)⟩ (fun j σ' H' _ z => SqT.of (z.2.1 _ _ hga4)) ?_ ?_⟩
        · rintro j x σ' H' H6 hj ⟨⟨x5, x6, rfl⟩, s5, hno⟩ ⟨T, u, v, rfl, nT, rfl, hu', hv⟩
          cases hu'
          obtain ⟨n, hn, rx⟩ := at_of rn hv
          have s6 : Same H' (upd H' T (.tup [.int (j : Nat), v])) := same_new (Same.refl H') nT
          have hT : upd H' T (.tup [.int (j : Nat), v]) T = some (.tup [.int (j : Nat), v]) := upd_same
          generalize upd H' T (.tup [.int (j : Nat), v]) = H6 at s6 hT
          have s46 := s5.trans s6
          have s06 := s04.trans s46
          have rx6 := rx.same s06
          refine ⟨T, _, rfl, SqT.of hT, rfl, _, _, rfl, _, _, rfl, rfl, ?_⟩
          try dsimp only
          show tIfS _ _ _ _ [some (.ref ga), some (.ref S), some (.ref Fd), some (.ref Ed), some (.ref A'), some v, some (.int (j : Nat))] H6
          obtain ⟨u, rfl, hu⟩ := nd_rp rx6
          cases n with
          | row r t m =>
            refine ⟨_, rfl, u, _, 0, .str "row", rfl, rfl, SqT.of hu, atI_nat (j := 0) rfl, rfl, _, rfl, ?_⟩
            have z : (!decide (V.str "row" = V.str "row")) = false := by decide +kernel
            rw [z]
            refine iteF ⟨⟨_, _, rfl⟩, s46, fun i n' a' t' m' hi hg => ?_⟩
            rcases Nat.lt_succ_iff_lt_or_eq.mp hi with y | y
            · exact hno i n' a' t' m' y hg
            · rw [y, hn] at hg
              cases hg
          | knd n a t m =>
            refine ⟨_, rfl, u, _, 0, .str "kind", rfl, rfl, SqT.of hu, atI_nat (j := 0) rfl, rfl, _, rfl, ?_⟩
            have z : (!decide (V.str "kind" = V.str "row")) = true := by decide +kernel
            rw [z]
            obtain ⟨es, hE6, tkE⟩ := tdE.same s06
            refine iteT ⟨_, rfl, u, _, 1, .str n, rfl, rfl, SqT.of hu, atI_nat (j := 1) rfl, _, rfl, .inr ⟨n, Ed, es, rfl, rfl, .inl hE6, _, rfl, ?_⟩⟩
            show if (valV es (Sum.inr n)).isSome = true then _ else _
            rw [tkE.isSome]
            refine ite2 (fun e2 => ?_) fun e2 => ?_
            · have e2 : (e n).isSome = true := e2
              obtain ⟨U, hU⟩ := Option.isSome_iff_exists.mp e2
              have q := tkE.val n
              rw [hU] at q
              obtain ⟨tv, htv, rt⟩ := q
              have jl := (List.getElem?_eq_some_iff.mp hn).1
              have hA6 := s46 _ _ hA4
              refine ⟨_, rfl, _, rfl, j, rfl, A', ys, rfl, SqT.of hA6, ?_, fun p1 np1 => ?_⟩
              · rw [HT.sIx_nat, lys]
                omega
              have s7 : Same H6 (upd H6 p1 (.tup (cutV ys none (some (j : Nat))))) := same_new (Same.refl H6) np1
              have h7 : upd H6 p1 (.tup (cutV ys none (some (j : Nat)))) p1 = some (.tup (cutV ys none (some (j : Nat)))) := upd_same
              generalize upd H6 p1 (.tup (cutV ys none (some (j : Nat)))) = H7 at s7 h7
              refine ⟨p1, _, rfl, .inl (SqT.of h7), _, rfl, _, rfl, u, _, 1, .str n, rfl, rfl, SqT.of (s7 _ _ hu), atI_nat (j := 1) rfl, Ed, tv, rfl, (by rw [← htv]; exact DGet.k (k := Sum.inr n) (s7 _ _ hE6)), ?_⟩
              refine ⟨_, rfl, _, rfl, j, 1, rfl, rfl, _, rfl, A', ys, rfl, SqT.of (s7 _ _ hA6), ?_, fun p2 np2 => ?_⟩
              · have ej : ((j : Nat) : Int) + 1 = ((j + 1 : Nat) : Int) := by omega
                rw [ej, HT.sIx_nat, lys]
                omega
              have ej : ((j : Nat) : Int) + 1 = ((j + 1 : Nat) : Int) := by omega
              rw [ej, cut_drop, cut_take] at *
              have s8 : Same H7 (upd H7 p2 (.tup (ys.drop (j + 1)))) := same_new (Same.refl H7) np2
              have h8 : upd H7 p2 (.tup (ys.drop (j + 1))) p2 = some (.tup (ys.drop (j + 1))) := upd_same
              generalize upd H7 p2 (.tup (ys.drop (j + 1))) = H8 at s8 h8
              refine ⟨p2, _, rfl, .inl (SqT.of h8), ?_⟩
              refine ⟨by rw [List.length_append, List.length_cons, List.length_append, List.length_take, List.length_drop, List.length_nil]; omega, fun p3 np3 => ?_⟩
              have s9 : Same H8 (upd H8 p3 (.tup (ys.take j ++ tv :: (ys.drop (j + 1) ++ [])))) := same_new (Same.refl H8) np3
              have s69 := (s7.trans s8).trans s9
              refine kQ _ _ (s06.trans s69) ?_
              unfold oldPs okE partsO
              have ho : g.any (oldN (dom B e)) = true := anyOld_of (List.mem_of_getElem? hn) (tkE.sub e2) e2
              rw [ho, Bool.or_true, if_pos rfl, if_neg e1]
              refine .tup upd_same ?_
              have r9 := RpAll.same (s46.trans s69) rys4
              have rt9 := rt.same s69
              rw [partsE_at hf hno hn hU]
              rw [List.append_nil] at r9 rt9 ⊢
              exact (RpAll.take j r9).append (.cons rt9 (RpAll.drop (j + 1) r9))
            · have e2 : (e n).isSome = false := by simpa using e2
              refine ⟨⟨_, _, rfl⟩, s46, fun i n' a' t' m' hi hg => ?_⟩
              rcases Nat.lt_succ_iff_lt_or_eq.mp hi with y | y
              · exact hno i n' a' t' m' y hg
              · rw [y, hn] at hg
                cases hg
                exact Option.isNone_iff_eq_none.mp (by rw [Option.isNone_eq_false_iff.symm] at *; simpa using e2)
        · rintro σ' H' ⟨⟨x5, x6, rfl⟩, s5, hno⟩
          refine kQ _ H' (s04.trans s5) ?_
          unfold oldPs okE
          have ho : g.any (oldN (dom B e)) = false := by
            rw [Bool.eq_false_iff]
            intro z
            obtain ⟨n, a, t, m, hn, hs⟩ := anyOld z
            obtain ⟨i, hi⟩ := List.getElem?_of_mem hn
            rw [hno i n a t m (by rw [ln]; exact (List.getElem?_eq_some_iff.mp hi).1) hi] at hs
            cases hs
          rw [ho, Bool.or_false, if_neg e1]
          exact .non
end
end Gy

namespace Gy
open PySem L2 PySem.Spec PyProof.Rows
/-! ### old_trees, old_tree -/
def newL (q : Nat → Bool) (mkT : Nat → Tr) (f : TM) (n : Str) (is : List Nat) : Option Tr := if (f n).isSome then none else (is.find? q).map mkT
def mPartL (M : TM) (n : Str) (x : Option Tr) : TM := fun m => if m = n then x else M m
theorem mPartL_self {M : TM} {n : Str} {x : Option Tr} : mPartL M n x n = x := if_pos rfl
theorem mPartL_id {M : TM} {n : Str} {x : Option Tr} (h : M n = x) : mPartL M n x = M := funext fun m => by
  unfold mPartL
  split
  · rename_i e
    rw [e, h]
  · rfl
theorem mPartL_put {M : TM} {n : Str} {x : Option Tr} {t : Tr} : (fun m => if m = n then some t else mPartL M n x m) = mPartL M n (some t) := funext fun m => by
  unfold mPartL
  by_cases e : m = n
  · rw [if_pos e, if_pos e]
  · rw [if_neg e, if_neg e, if_neg e]
theorem newL_nil {q : Nat → Bool} {mkT : Nat → Tr} {f : TM} {n : Str} : newL q mkT f n [] = none := by
  unfold newL
  split <;> rfl
theorem newL_snoc {q : Nat → Bool} {mkT : Nat → Tr} {f : TM} {n : Str} {is : List Nat} {i : Nat} : newL q mkT f n (is ++ [i]) = if (f n).isSome then none else match newL q mkT f n is with
    | some t => some t
    | none => if q i = true then some (mkT i) else none := by
  unfold newL
  by_cases e : (f n).isSome = true
  · rw [if_pos e, if_pos e]
  · rw [if_neg e, if_neg e, if_neg e, List.find?_append]
    cases z : is.find? q with
    | some u => rfl
    | none =>
      rw [Option.none_or, List.find?_cons]
      cases q i <;> rfl
theorem newL_f {q : Nat → Bool} {mkT : Nat → Tr} {f : TM} {n : Str} {is : List Nat} (h : (f n).isSome = true) : newL q mkT f n is = none := if_pos h
theorem newL_all {B : Bk} {be : List Str} {ok : List Nd → Bool} {q : Nat → Bool} {mk : List Nd → Trs} {f : TM} {k : Kd} (h : ∀ i, ok (k.gs.getD i []) = (metG B be (k.gs.getD i []) && q i)) : newL q (fun i => .mk k.name i (mk (k.gs.getD i []))) f k.name (liveL B be k.gs) = newT ok mk f k := by
  unfold newL newT firstG liveL
  rw [List.find?_filter]
  simp only [h, Bool.decide_and, Bool.decide_eq_true]
theorem moreJ_snoc {B : Bk} (okB : BOk B) {ok : List Nd → Bool} {mk : List Nd → Trs} {f : TM} {j : Nat} {k : Kd} (h : B.kinds[j]? = some k) : mPartL (moreJ ok mk f (B.kinds.take j)) k.name (newT ok mk f k) = moreJ ok mk f (B.kinds.take (j + 1)) := funext fun n => by
  unfold mPartL
  show _ = moreJ ok mk f (B.kinds.take (j + 1)) n
  unfold moreJ
  rw [take_snoc h, List.find?_append]
  by_cases e : n = k.name
  · rw [if_pos e, e, find_take_none okB h, List.find?_cons, decide_eq_true rfl]
    rfl
  · rw [if_neg e]
    cases z : (B.kinds.take j).find? fun k' => decide (k'.name = n) with
    | some u => rfl
    | none =>
      rw [List.find?_cons, decide_eq_false fun y => e y.symm]
      rfl
theorem moreJ_name {B : Bk} (okB : BOk B) {ok : List Nd → Bool} {mk : List Nd → Trs} {f : TM} {j : Nat} {k : Kd} (h : B.kinds[j]? = some k) : moreJ ok mk f (B.kinds.take j) k.name = none := by
  unfold moreJ
  rw [find_take_none okB h]
abbrev sOldTs : Stmt := top 23
def spOldTs (K : PySem.W.Frag) : Sp := fun vs H Q _ => ∃ (p S : Addr) (B : Bk) (st : List Str), vs = [.ref p, .ref S] ∧ Rp K H (.ref p) B.d ∧ BOk B ∧ SqQ H S (st.map V.str) ∧
  ∀ (d : Addr) (H' : Hp), Same H H' → H d = none → TD K B H' d (itO B st (2 * B.kinds.length)) → Q (.ref d) H'
abbrev sOldT : Stmt := top 24
def spOldT (K : PySem.W.Frag) : Sp := fun vs H Q _ => ∃ (p S : Addr) (B : Bk) (st : List Str) (n : Str), vs = [.ref p, .ref S, .str n] ∧ Rp K H (.ref p) B.d ∧ BOk B ∧ SqQ H S (st.map V.str) ∧
  ∀ (v : V) (H' : Hp), Same H H' → Rp K H' v (optD (itO B st (2 * B.kinds.length) n)) → Q v H'
/-- all stands but what is at two places -/
def Ext2 (a b : Addr) (H H' : Hp) : Prop := ∀ x o, x ≠ a → x ≠ b → H x = some o → H' x = some o
theorem Ext2.same {a b : Addr} {H0 H H' : Hp} (s : Same H0 H) (e : Ext2 a b H H') (n1 : H0 a = none) (n2 : H0 b = none) : Same H0 H' := fun x o h => e x o (fun z => by rw [z, n1] at h; cases h) (fun z => by rw [z, n2] at h; cases h) (s x o h)
theorem ps_or2 {σ : L2.St} {H : Hp} {Q : VK} {ta tb : TE} {b : Bool} (h : ta σ H fun v H1 => ∃ c, v = .bl c ∧ if c = true then Q (.bl true) H1 else tb σ H1 Q) : tOrV ta tb σ H Q := h
section
variable {P : Program} {w : World} {K : PySem.W.Frag} {mg : Str → Option Value} {base : Heap}
theorem scOldTs : FnScope ["rulebook", "struck", "trees", "olds", "grows", "more", "elder", "name", "keep", "bar", "grounds", "index", "parts"] ["rulebook", "struck"] (defScope sOldTs) := ⟨rfl, rfl, rfl, by decide +kernel, rfl, by decide +kernel, by decide +kernel⟩
theorem ok_oldTs {f : Addr} {fd : FuncData} (F : Fun K "old_trees" "old_trees" sOldTs f fd) (CL : Cal P w K mg base 5 "live_of" ["rulebook", "grounds", "bearing"] (spLiveOf K)) (CO : Cal P w K mg base 2 "old_parts" ["ground", "struck", "trees", "olds"] (spOldParts K)) (CP : Cal P w K mg base 1 "parts_by" ["ground", "trees"] (spPartsBy K)) : FnOk P w K mg base CX0 6 f fd ["rulebook", "struck"] (spOldTs K) := by
  refine F.ok scOldTs (fun vs H Q E h => ?_) (fun cdv A outer s H vs Q E hr h => ?_)
  · obtain ⟨p, S, B, st, rfl, _⟩ := h
    rfl
  · obtain ⟨p, S, B, st, rfl, rp, ok, hS, kQ⟩ := h
    have nd := scOldTs.nd
    have hu := hr.units
    have hu0 := hu_of hr
    have huu : (A.deeper (envOfC "old_trees" (defScope sOldTs) s.heap.objs.size f cdv)).units < cLine := by omega
    have hr1 := hr.mono (by decide : 1 ≤ 5)
    have hr2 := hr.mono (by decide : 2 ≤ 5)
    have hz := sizeLine_eq
    refine ⟨_, pss_cons (ps_par3 (i := 2) (j := 3) (l := 4) (by rfl) nd rfl rfl rfl (by decide) (by decide) (by decide) rfl rfl rfl (pa_cons pe_dnewK (pa_cons pe_dnewK (pa_cons pe_bl pa_nil))) (by rfl))
      (pss_cons (ps_while PassesOwn.never (pt_val (pv 4))
        (pss_cons (ps_par (i := 5) (j := 6) (by rfl) nd rfl rfl (by decide) rfl rfl (pa_cons pe_dnewK (pa_cons pe_dnewK pa_nil)) (by rfl))
        (pss_cons (ps_for PassesOwn.never rfl (pi_tup (pe_ix ix_tup (pv 0) pe_int (fun _ _ => rfl))) (pg_tup rfl (pgs_cons (pg_name (i := 7) nd rfl (Or.inl rfl)) (pgs_cons (pg_name (i := 8) nd rfl (Or.inl rfl)) (pgs_cons (pg_name (i := 9) nd rfl (Or.inl rfl)) (pgs_cons (pg_name (i := 10) nd rfl (Or.inl rfl)) pgs_nil)))))
          (pss_one (ps_for PassesOwn.never rfl (pi_list (pe_cal CL hr rfl (pa_cons (pv 0) (pa_cons (pv 10) (pa_cons (pv 2) pa_nil))))) (pg_name (i := 11) nd rfl (Or.inl rfl))
            (pss_cons (ps_set (i := 12) nd rfl (Or.inl rfl) (pe_cal CO hr2 rfl (pa_cons (pe_ix ix_tup (pv 10) (pv 11) (fun _ _ => rfl)) (pa_cons (pv 1) (pa_cons (pv 2) (pa_cons (pv 3) pa_nil))))))
            (C8.pss_cut (ps_if (PW.pt (pw_and (pt_cmpR (op_notIn_any hu0) (pv 7) (pv 2) (by rfl)) (pw_and1 (pt_cmpR (op_notIn_any hu0) (pv 7) (pv 5) (by rfl)))))
              (pss_one (ps_asg (pe_tup (pa_cons (pv 7) (pa_cons (pv 11) (pa_cons (pe_cal CP hr1 rfl (pa_cons (pe_ix ix_tup (pv 10) (pv 11) (fun _ _ => rfl)) (pa_cons (pv 2) pa_nil))) pa_nil)))) (pg_sub (pv 5) (pv 7) (set_dict hu0)))) pss_nil)
            (pss_one (ps_if (PW.pt (pw_and (pt_cmpR (op_notIn_any hu0) (pv 7) (pv 3) (by rfl)) (pw_and (pt_cmpR (op_notIn_any hu0) (pv 7) (pv 6) (by rfl)) (pw_and1 (pt_cmpR op_notN (pv 12) pe_non (nomark _))))))
              (pss_one (ps_asg (pe_tup (pa_cons (pv 7) (pa_cons (pv 11) (pa_cons (pv 12) pa_nil)))) (pg_sub (pv 6) (pv 7) (set_dict hu0)))) pss_nil)))))))
        (pss_cons (ps_set (i := 4) nd rfl (Or.inl rfl) (pe_or (pe_cmpR (op_ne_dict0 huu) (pv 5) pe_dnewK (nomark _)) (pe_one (pe_cmpR (op_ne_dict0 huu) (pv 6) pe_dnewK (nomark _)))))
        (pss_cons (ps_expr (pe_dupd (pv 2) (pv 5) ⟨rfl, rfl, rfl, rfl⟩))
        (pss_one (ps_expr (pe_dupd (pv 3) (pv 6) ⟨rfl, rfl, rfl, rfl⟩))))))))
      (pss_one (ps_ret (pv 3)))), ?_⟩
    have lb := ok.len
    have R := right_met B
    refine fun Fd nFd => fun Ed nEd => ⟨_, _, _, rfl, ?_⟩
    have FE : Fd ≠ Ed := fun z => by rw [z, upd_same] at nEd; cases nEd
    have nEdH : H Ed = none := by rw [upd_ne (Ne.symm FE)] at nEd; exact nEd
    have s1 : Same H (upd (upd H Fd (.dK [])) Ed (.dK [])) := same_put (same_new (Same.refl H) nFd) nEdH
    have h1F : upd (upd H Fd (.dK [])) Ed (.dK []) Fd = some (.dK []) := by rw [upd_ne FE]; exact upd_same
    have h1E : upd (upd H Fd (.dK [])) Ed (.dK []) Ed = some (.dK []) := upd_same
    generalize upd (upd H Fd (.dK [])) Ed (.dK []) = H1 at s1 h1F h1E
    try dsimp only
    show tSeq _ _ _ [some (.ref p), some (.ref S), some (.ref Fd), some (.ref Ed), some (.bl true), none, none, none, none, none, none, none, none] H1
    refine ⟨fun m σ' H' => ∃ (gr : Bool) (t : Nat), (∃ x5 x6 x7 x8 x9 x10 x11 x12, σ' = [some (.ref p), some (.ref S), some (.ref Fd), some (.ref Ed), some (.bl gr), x5, x6, x7, x8, x9, x10, x11, x12]) ∧ Ext2 Fd Ed H1 H' ∧ TD K B H' Fd (itT B (metG B) t) ∧ TD K B H' Ed (itO B st t) ∧ (gr = true → t ≤ (dom B (itT B (metG B) t)).length + (dom B (itO B st t)).length) ∧ (gr = false → itO B st t = itO B st (2 * B.kinds.length)) ∧ m = (if gr = true then 2 * B.kinds.length + 1 - t else 0),
      ⟨_, true, 0, ⟨_, _, _, _, _, _, _, _, rfl⟩, fun _ _ _ _ h => h, ⟨[], h1F, TDk.empty K B H1⟩, ⟨[], h1E, TDk.empty K B H1⟩, fun _ => Nat.zero_le _, (fun z => Bool.noConfusion z), rfl⟩, ?_⟩
    rintro m σ' H5 ⟨gr, t, ⟨x5, x6, x7, x8, x9, x10, x11, x12, rfl⟩, e5, tdF5, tdE5, hgt, hgf, rfl⟩
    have s05 := Ext2.same s1 e5 nFd nEdH
    refine ⟨_, rfl, gr, rfl, ?_⟩
    cases gr with
    | false =>
      refine iteF ⟨_, rfl, kQ Ed H5 s05 nEdH ?_⟩
      rw [← hgf rfl]
      exact tdE5
    | true =>
      have ht := hgt rfl
      have hdl := dom_le (B := B) (itT B (metG B) t)
      have hdl2 := dom_le (B := B) (itO B st t)
      have tl : t < 99 := by omega
      generalize hf : itT B (metG B) t = f at tdF5 ht hdl
      generalize he : itO B st t = e at tdE5 ht hdl2
      refine iteT ⟨fun σ' H' => ∃ (gr' : Bool), (∃ x5 x6 x7 x8 x9 x10 x11 x12, σ' = [some (.ref p), some (.ref S), some (.ref Fd), some (.ref Ed), some (.bl gr'), x5, x6, x7, x8, x9, x10, x11, x12]) ∧ Ext2 Fd Ed H1 H' ∧ TD K B H' Fd (itT B (metG B) (t + 1)) ∧ TD K B H' Ed (itO B st (t + 1)) ∧ (gr' = true → t + 1 ≤ (dom B (itT B (metG B) (t + 1))).length + (dom B (itO B st (t + 1))).length) ∧ (gr' = false → itO B st (t + 1) = itO B st (2 * B.kinds.length)),
        fun σ' H' ⟨gr', h1, h2, h3, h4, h5, h6⟩ => ⟨if gr' = true then 2 * B.kinds.length + 1 - (t + 1) else 0, by
          cases gr' with
          | true => show 2 * B.kinds.length + 1 - (t + 1) < 2 * B.kinds.length + 1 - t; omega
          | false => show 0 < 2 * B.kinds.length + 1 - t; omega, gr', t + 1, h1, h2, h3, h4, h5, h6, rfl⟩, ?_⟩
      refine fun Dm nDm => fun Ee nEe => ⟨_, _, rfl, ?_⟩
      obtain ⟨kvs, hFd5, tk5⟩ := tdF5
      obtain ⟨evs, hEd5, ek5⟩ := tdE5
      have DE : Dm ≠ Ee := fun z => by rw [z, upd_same] at nEe; cases nEe
      have nEe5 : H5 Ee = none := by rw [upd_ne (Ne.symm DE)] at nEe; exact nEe
      have FD : Fd ≠ Dm := fun z => by rw [z, nDm] at hFd5; cases hFd5
      have EE : Ed ≠ Ee := fun z => by rw [z, nEe5] at hEd5; cases hEd5
      have s6 : Same H5 (upd (upd H5 Dm (.dK [])) Ee (.dK [])) := same_put (same_new (Same.refl H5) nDm) nEe5
      have h6D : upd (upd H5 Dm (.dK [])) Ee (.dK []) Dm = some (.dK []) := by rw [upd_ne DE]; exact upd_same
      have h6E : upd (upd H5 Dm (.dK [])) Ee (.dK []) Ee = some (.dK []) := upd_same
      generalize upd (upd H5 Dm (.dK [])) Ee (.dK []) = H6 at s6 h6D h6E
      have rp5 := rp.same s05
      obtain ⟨pr, pk, ks, hp, hpr, hpk, rks⟩ := Bk.rp_rows rp5
      have lk : ks.length = B.kinds.length := by rw [rks.len, List.length_map]
      try dsimp only
      show tSeq _ _ _ [some (.ref p), some (.ref S), some (.ref Fd), some (.ref Ed), some (.bl true), some (.ref Dm), some (.ref Ee), x7, x8, x9, x10, x11, x12] H6
      refine ⟨_, rfl, p, _, 1, .ref pk, rfl, rfl, SqT.of (s6 _ _ hp), atI_nat (j := 1) rfl, pk, rfl, ⟨_, SqT.of (s6 _ _ hpk)⟩, for_tup (xs := ks) (fun j σ' H' => (∃ x7 x8 x9 x10 x11 x12, σ' = [some (.ref p), some (.ref S), some (.ref Fd), some (.ref Ed), some (.bl true), some (.ref Dm), some (.ref Ee), x7, x8, x9, x10, x11, x12]) ∧ Same H5 H' ∧ TD K B H' Dm (moreJ (metG B (dom B f)) (partsBy f) f (B.kinds.take j)) ∧ TD K B H' Ee (moreJ (okO B st f e) (partsO st f e) e (B.kinds.take j)))
        ⟨⟨_, _, _, _, _, _, rfl⟩, s6, ⟨[], h6D, TDk.empty K B H6⟩, ⟨[], h6E, TDk.empty K B H6⟩⟩ (fun j σ' H' _ z => SqT.of (z.2.1 _ _ hpk)) ?_ ?_⟩
      · rintro j x σ' H7 hj ⟨⟨x7, x8, x9, x10, x11, x12, rfl⟩, s7, tdD7, tdE7⟩
        obtain ⟨kd, hk, rk⟩ := at_of rks hj
        have kin : kd ∈ B.kinds := List.mem_of_getElem? hk
        obtain ⟨a, ga, gvs, rfl, ha, hga, rg⟩ := Kd.rp rk
        have okk := ok.kinds kd kin
        have lg4 := okk.len
        have knm : kd.name ∈ B.names := List.mem_map_of_mem kin
        have tfF : TD K B H5 Fd f := ⟨kvs, hFd5, tk5⟩
        have tfE : TD K B H5 Ed e := ⟨evs, hEd5, ek5⟩
        generalize hmT : moreJ (metG B (dom B f)) (partsBy f) f (B.kinds.take j) = MT at tdD7
        generalize hmO : moreJ (okO B st f e) (partsO st f e) e (B.kinds.take j) = MO at tdE7
        have mT0 : MT kd.name = none := by rw [← hmT]; exact moreJ_name ok hk
        have mO0 : MO kd.name = none := by rw [← hmO]; exact moreJ_name ok hk
        let qT : Nat → Bool := fun _ => true
        let qO : Nat → Bool := fun i => okE B st e (kd.gs.getD i [])
        let kT : Nat → Tr := fun i => .mk kd.name i (partsBy f (kd.gs.getD i []))
        let kO : Nat → Tr := fun i => .mk kd.name i (partsO st f e (kd.gs.getD i []))
        refine ⟨a, _, rfl, SqT.of (s7 _ _ ha), rfl, _, _, rfl, _, _, rfl, _, _, rfl, _, _, rfl, rfl, ?_⟩
        try dsimp only
        show tFor _ _ _ _ [some (.ref p), some (.ref S), some (.ref Fd), some (.ref Ed), some (.bl true), some (.ref Dm), some (.ref Ee), some (.str kd.name), some (.int kd.keep), some (.int kd.bar), some (.ref ga), x11, x12] H7
        refine ⟨_, rfl, _, rfl, _, rfl, p, ga, Fd, B, kd.gs, gvs, dom B f, rfl, rp5.same s7, ok, s7 _ _ hga, RpAll.same s7 rg, okk.gs, lg4, (tfF.same s7).inC, fun W H8 s8 nW hW => ?_⟩
        have s58 := s7.trans s8
        have llv := live_len B (dom B f) kd.gs
        refine ⟨W, rfl, ⟨_, SqL.of hW⟩, for_list (xs := (liveL B (dom B f) kd.gs).map fun i : Nat => V.int i) (fun m σ' H' => (∃ x11 x12, σ' = [some (.ref p), some (.ref S), some (.ref Fd), some (.ref Ed), some (.bl true), some (.ref Dm), some (.ref Ee), some (.str kd.name), some (.int kd.keep), some (.int kd.bar), some (.ref ga), x11, x12]) ∧ Same H5 H' ∧ H' W = some (.lst ((liveL B (dom B f) kd.gs).map fun i : Nat => V.int i)) ∧ TD K B H' Dm (mPartL MT kd.name (newL qT kT f kd.name ((liveL B (dom B f) kd.gs).take m))) ∧ TD K B H' Ee (mPartL MO kd.name (newL qO kO e kd.name ((liveL B (dom B f) kd.gs).take m))))
          ⟨⟨_, _, rfl⟩, s58, hW, by rw [List.take_zero, newL_nil, mPartL_id mT0]; exact tdD7.same s8, by rw [List.take_zero, newL_nil, mPartL_id mO0]; exact tdE7.same s8⟩ (fun m σ' H' _ z => SqL.of z.2.2.1) ?_ ?_⟩
        · rintro m x σ' H9 hm ⟨⟨x11, x12, rfl⟩, s9, hW9, tdD9, tdE9⟩
          obtain ⟨i, hi, rfl⟩ := nat_at hm
          obtain ⟨g, hg, mg'⟩ := live_mem (List.mem_of_getElem? hi)
          have okg := okk.gs g (List.mem_of_getElem? hg)
          obtain ⟨gv, hgv, rgv⟩ := at_to rg hg
          have ex := take_snoc hi
          rw [ex]
          have hga9 := s9 _ _ hga
          have s09 := s05.trans s9
          have hsF : ∀ n a t m, Nd.knd n a t m ∈ g → (f n).isSome = true := fun n a t m hn => let ⟨T, hT⟩ := (met_dom mg' hn).2.1; by rw [hT]; rfl
          try dsimp only
          show tSeq _ _ _ [some (.ref p), some (.ref S), some (.ref Fd), some (.ref Ed), some (.bl true), some (.ref Dm), some (.ref Ee), some (.str kd.name), some (.int kd.keep), some (.int kd.bar), some (.ref ga), some (.int (i : Nat)), x12] H9
          refine ⟨_, rfl, _, rfl, ga, _, i, gv, rfl, rfl, SqT.of hga9, atI_nat hgv, _, rfl, _, rfl, _, rfl, gv, S, Fd, Ed, B, g, st, f, e, rfl, rgv.same s9, okg.len, hS.same s09, tfF.same s9, tfE.same s9, hsF, fun pv' H10 s10 rpv => ?_⟩
          have nsT := newL_snoc (q := qT) (mkT := kT) (f := f) (n := kd.name) (is := (liveL B (dom B f) kd.gs).take m) (i := i)
          have nsO := newL_snoc (q := qO) (mkT := kO) (f := e) (n := kd.name) (is := (liveL B (dom B f) kd.gs).take m) (i := i)
          have eqO : qO i = okE B st e g := by show okE B st e (kd.gs.getD i []) = _; rw [getD_of hg]
          have ekT : kT i = .mk kd.name i (partsBy f g) := by show Tr.mk kd.name i (partsBy f (kd.gs.getD i [])) = _; rw [getD_of hg]
          have ekO : kO i = .mk kd.name i (partsO st f e g) := by show Tr.mk kd.name i (partsO st f e (kd.gs.getD i [])) = _; rw [getD_of hg]
          have hNT0 : (f kd.name).isSome = true → newL qT kT f kd.name ((liveL B (dom B f) kd.gs).take m) = none := newL_f
          have hNO0 : (e kd.name).isSome = true → newL qO kO e kd.name ((liveL B (dom B f) kd.gs).take m) = none := newL_f
          generalize newL qT kT f kd.name ((liveL B (dom B f) kd.gs).take m) = NT0 at nsT tdD9 hNT0
          generalize newL qO kO e kd.name ((liveL B (dom B f) kd.gs).take m) = NO0 at nsO tdE9 hNO0
          rw [ekT, if_pos (show qT i = true from rfl)] at nsT
          rw [ekO, eqO] at nsO
          generalize newL qT kT f kd.name ((liveL B (dom B f) kd.gs).take m ++ [i]) = NT1 at nsT ⊢
          generalize newL qO kO e kd.name ((liveL B (dom B f) kd.gs).take m ++ [i]) = NO1 at nsO ⊢
          have s5_10 := s9.trans s10
          have tdD10 := tdD9.same s10
          have tdE10 := tdE9.same s10
          have hW10 := s10 _ _ hW9
          try dsimp only
          show C8.tCut _ _ _ [some (.ref p), some (.ref S), some (.ref Fd), some (.ref Ed), some (.bl true), some (.ref Dm), some (.ref Ee), some (.str kd.name), some (.int kd.keep), some (.int kd.bar), some (.ref ga), some (.int (i : Nat)), some pv'] H10
          refine ⟨fun σ' H' => σ' = [some (.ref p), some (.ref S), some (.ref Fd), some (.ref Ed), some (.bl true), some (.ref Dm), some (.ref Ee), some (.str kd.name), some (.int kd.keep), some (.int kd.bar), some (.ref ga), some (.int (i : Nat)), some pv'] ∧ Same H5 H' ∧ Tups H10 H' ∧ H' W = some (.lst ((liveL B (dom B f) kd.gs).map fun i : Nat => V.int i)) ∧ TD K B H' Dm (mPartL MT kd.name NT1) ∧ TD K B H' Ee (mPartL MO kd.name NO0), ?_, ?_⟩
          · -- more
            obtain ⟨ms, hDm10, tkD⟩ := tdD10
            have hFd10 := s5_10 _ _ hFd5
            have v5 := tk5.isSome kd.name
            have v9 := tkD.isSome kd.name
            rw [mPartL_self] at v9
            refine ⟨_, rfl, _, rfl, .inr ⟨kd.name, Fd, kvs, rfl, rfl, .inl hFd10, _, rfl, ?_⟩⟩
            show if (!(valV kvs (Sum.inr kd.name)).isSome) = true then _ else _
            rw [v5]
            refine ite2 (fun e1 => ?_) fun e1 => ?_
            · have e1 : (f kd.name).isSome = false := by simpa using e1
              refine ⟨_, rfl, _, rfl, .inr ⟨kd.name, Dm, ms, rfl, rfl, .inl hDm10, _, rfl, ?_⟩⟩
              show if (!(valV ms (Sum.inr kd.name)).isSome) = true then _ else _
              rw [v9]
              rw [if_neg (by rw [e1]; decide)] at nsT
              refine ite2 (fun e2 => ?_) fun e2 => ?_
              · have e2 : NT0 = none := by simpa using e2
                rw [e2] at nsT tkD
                dsimp only at nsT
                have hga10 := s5_10 _ _ hga
                refine ⟨_, rfl, _, rfl, _, rfl, _, rfl, ga, _, i, gv, rfl, rfl, SqT.of hga10, atI_nat hgv, _, rfl, gv, Fd, B, g, f, rfl, rgv.same s5_10, okg.len, tfF.same s5_10, hsF, fun q ys H11 s11 nq hq rq => ?_⟩
                refine ⟨by show 3 ≤ sizeLine; decide, fun tt ntt => ?_⟩
                have s12 : Same H11 (upd H11 tt (.tup [.str kd.name, .int (i : Nat), .ref q])) := same_new (Same.refl H11) ntt
                have h12 : upd H11 tt (.tup [.str kd.name, .int (i : Nat), .ref q]) tt = some (.tup [.str kd.name, .int (i : Nat), .ref q]) := upd_same
                generalize upd H11 tt (.tup [.str kd.name, .int (i : Nat), .ref q]) = H12 at s12 h12
                have s10_12 := s11.trans s12
                have hDm12 := s10_12 _ _ hDm10
                have lm := tkD.len ok
                have rt : Rp K H12 (.ref tt) (Tr.mk kd.name i (partsBy f g)).d := .tup h12 (.cons (.str _) (.cons (.int _) (.cons (.tup (s12 _ _ hq) (RpAll.same s12 rq)) .nil)))
                obtain ⟨pe, tkp⟩ := (tkD.tups (Tups.same s10_12)).put knm mPartL_self rt
                rw [mPartL_put, ← nsT] at tkp
                have T13 : Tups H12 (upd H12 Dm (.dK (putK ms (Sum.inr kd.name) (.ref tt)))) := fun b xs hb => by
                  rw [upd_ne (fun z => by rw [z, hDm12] at hb; cases hb)]
                  exact hb
                have hW12 := s10_12 _ _ hW10
                refine ⟨_, rfl, _, rfl, Dm, _, rfl, DPut.k (k := Sum.inr kd.name) hDm12 (by omega), rfl, same_put (s5_10.trans s10_12) nDm, (Tups.same s10_12).trans T13, ?_, ?_, ?_⟩
                · rw [upd_ne (fun z => by rw [z, hDm12] at hW12; cases hW12)]
                  exact hW12
                · rw [pe] at T13 ⊢
                  exact ⟨_, upd_same, tkp.tups T13⟩
                · obtain ⟨es, hEe12, tkE⟩ := tdE10.same s10_12
                  exact ⟨es, by rw [upd_ne (Ne.symm DE)]; exact hEe12, tkE.tups T13⟩
              · have e2 : NT0.isSome = true := Option.isSome_iff_ne_none.mpr (by simpa using e2)
                obtain ⟨T', hT'⟩ := Option.isSome_iff_exists.mp e2
                rw [hT'] at nsT tkD
                dsimp only at nsT
                rw [nsT]
                exact ⟨rfl, s5_10, Tups.refl H10, hW10, ⟨ms, hDm10, tkD⟩, tdE10⟩
            · have e1 : (f kd.name).isSome = true := Option.isSome_iff_ne_none.mpr (by simpa using e1)
              rw [if_pos e1] at nsT
              have e0 : NT0 = none := hNT0 e1
              rw [nsT, ← e0]
              exact ⟨rfl, s5_10, Tups.refl H10, hW10, ⟨ms, hDm10, tkD⟩, tdE10⟩
          · -- elder
            rintro σ' H11 ⟨rfl, s11, T11, hW11, tdD11, tdE11⟩
            obtain ⟨es, hEe11, tkE⟩ := tdE11
            have hEd11 := s11 _ _ hEd5
            have v5 := ek5.isSome kd.name
            have v9 := tkE.isSome kd.name
            rw [mPartL_self] at v9
            have psfl : (psD (oldPs B st f e g)).flat = true := by
              unfold oldPs
              split
              · exact Trs.flat _
              · rfl
            have rpv11 := rpv.tups T11 psfl
            refine ⟨_, rfl, _, rfl, .inr ⟨kd.name, Ed, evs, rfl, rfl, .inl hEd11, _, rfl, ?_⟩⟩
            show if (!(valV evs (Sum.inr kd.name)).isSome) = true then _ else _
            rw [v5]
            refine ite2 (fun e1 => ?_) fun e1 => ?_
            · have e1 : (e kd.name).isSome = false := by simpa using e1
              refine ⟨_, rfl, _, rfl, .inr ⟨kd.name, Ee, es, rfl, rfl, .inl hEe11, _, rfl, ?_⟩⟩
              show if (!(valV es (Sum.inr kd.name)).isSome) = true then _ else _
              rw [v9]
              rw [if_neg (by rw [e1]; decide)] at nsO
              refine ite2 (fun e2 => ?_) fun e2 => ?_
              · have e2 : NO0 = none := by simpa using e2
                rw [e2] at nsO tkE
                dsimp only at nsO
                refine ⟨_, rfl, rfl, _, rfl, ?_⟩
                by_cases e3 : okE B st e g = true
                · rw [if_pos e3] at nsO
                  unfold oldPs at rpv11
                  rw [if_pos e3] at rpv11
                  obtain ⟨pa, pys, rfl, hpa, rpy⟩ : ∃ pa pys, pv' = .ref pa ∧ H11 pa = some (.tup pys) ∧ RpAll K H11 pys (partsO st f e g).ds := by
                    cases rpv11 with
                    | tup h r => exact ⟨_, _, rfl, h, r⟩
                  refine iteT ⟨_, rfl, _, rfl, _, rfl, by show 3 ≤ sizeLine; decide, fun tt ntt => ?_⟩
                  have s12 : Same H11 (upd H11 tt (.tup [.str kd.name, .int (i : Nat), .ref pa])) := same_new (Same.refl H11) ntt
                  have h12 : upd H11 tt (.tup [.str kd.name, .int (i : Nat), .ref pa]) tt = some (.tup [.str kd.name, .int (i : Nat), .ref pa]) := upd_same
                  generalize upd H11 tt (.tup [.str kd.name, .int (i : Nat), .ref pa]) = H12 at s12 h12
                  have hEe12 := s12 _ _ hEe11
                  have lm := tkE.len ok
                  have rt : Rp K H12 (.ref tt) (Tr.mk kd.name i (partsO st f e g)).d := .tup h12 (.cons (.str _) (.cons (.int _) (.cons (.tup (s12 _ _ hpa) (RpAll.same s12 rpy)) .nil)))
                  obtain ⟨pe, tkp⟩ := (tkE.tups (Tups.same s12)).put knm mPartL_self rt
                  rw [mPartL_put, ← nsO] at tkp
                  have T13 : Tups H12 (upd H12 Ee (.dK (putK es (Sum.inr kd.name) (.ref tt)))) := fun b xs hb => by
                    rw [upd_ne (fun z => by rw [z, hEe12] at hb; cases hb)]
                    exact hb
                  have hW12 := s12 _ _ hW11
                  refine ⟨_, rfl, _, rfl, Ee, _, rfl, DPut.k (k := Sum.inr kd.name) hEe12 (by omega), ⟨_, _, rfl⟩, same_put (s11.trans s12) nEe5, ?_, ?_, ?_⟩
                  · rw [upd_ne (fun z => by rw [z, hEe12] at hW12; cases hW12)]
                    exact hW12
                  · obtain ⟨ds, hDm12, tkD⟩ := tdD11.same s12
                    exact ⟨ds, by rw [upd_ne DE]; exact hDm12, tkD.tups T13⟩
                  · rw [pe] at T13 ⊢
                    exact ⟨_, upd_same, tkp.tups T13⟩
                · rw [if_neg e3] at nsO
                  unfold oldPs at rpv11
                  rw [if_neg e3] at rpv11
                  have ev : pv' = .non := by cases rpv11; rfl
                  subst ev
                  refine iteF ⟨⟨_, _, rfl⟩, s11, hW11, tdD11, ?_⟩
                  rw [nsO]
                  exact ⟨es, hEe11, tkE⟩
              · have e2 : NO0.isSome = true := Option.isSome_iff_ne_none.mpr (by simpa using e2)
                obtain ⟨T', hT'⟩ := Option.isSome_iff_exists.mp e2
                rw [hT'] at nsO tkE
                dsimp only at nsO
                refine ⟨⟨_, _, rfl⟩, s11, hW11, tdD11, ?_⟩
                rw [nsO]
                exact ⟨es, hEe11, tkE⟩
            · have e1 : (e kd.name).isSome = true := Option.isSome_iff_ne_none.mpr (by simpa using e1)
              rw [if_pos e1] at nsO
              have e0 : NO0 = none := hNO0 e1
              refine ⟨⟨_, _, rfl⟩, s11, hW11, tdD11, ?_⟩
              rw [nsO, ← e0]
              exact ⟨es, hEe11, tkE⟩
        · rintro σ' H9 ⟨⟨x11, x12, rfl⟩, s9, hW9, tdD9, tdE9⟩
          rw [List.length_map, List.take_length] at tdD9 tdE9
          refine ⟨⟨_, _, _, _, _, _, rfl⟩, s9, ?_, ?_⟩
          · rw [← moreJ_snoc ok hk, hmT, ← newL_all (B := B) (be := dom B f) (ok := metG B (dom B f)) (q := qT) (fun i => (Bool.and_true _).symm)]
            exact tdD9
          · rw [← moreJ_snoc ok hk, hmO, ← newL_all (B := B) (be := dom B f) (ok := okO B st f e) (q := qO) (fun i => rfl)]
            exact tdE9
      · rintro σ' H7 ⟨⟨x7, x8, x9, x10, x11, x12, rfl⟩, s7, tdD7, tdE7⟩
        rw [lk, List.take_length] at tdD7 tdE7
        obtain ⟨ms, hDm7, tk7⟩ := tdD7
        obtain ⟨es, hEe7, ek7⟩ := tdE7
        have esT : itT B (metG B) (t + 1) = sweepT B (metG B (dom B f)) (partsBy f) f := by rw [← hf]; rfl
        have esO : itO B st (t + 1) = sweepT B (okO B st f e) (partsO st f e) e := by rw [← hf, ← he]; rfl
        try dsimp only
        show tSeq _ _ _ [some (.ref p), some (.ref S), some (.ref Fd), some (.ref Ed), some (.bl true), some (.ref Dm), some (.ref Ee), x7, x8, x9, x10, x11, x12] H7
        have l1 := tk5.len ok
        have l2 := ek5.len ok
        have l3 := tk7.len ok
        have l4 := ek7.len ok
        -- behind grows
        have rest : ∀ (c : Bool) (H8 : Hp), Same H7 H8 → c = (!ms.isEmpty || !es.isEmpty) → ∃ (gr' : Bool), (∃ x5 x6 x7' x8' x9' x10' x11' x12', [some (.ref p), some (.ref S), some (.ref Fd), some (.ref Ed), some (.bl c), some (.ref Dm), some (.ref Ee), x7, x8, x9, x10, x11, x12] = [some (.ref p), some (.ref S), some (.ref Fd), some (.ref Ed), some (V.bl gr'), x5, x6, x7', x8', x9', x10', x11', x12']) ∧ Ext2 Fd Ed H1 (upd (upd H8 Fd (.dK (mergeK kvs ms))) Ed (.dK (mergeK evs es))) ∧ TD K B (upd (upd H8 Fd (.dK (mergeK kvs ms))) Ed (.dK (mergeK evs es))) Fd (itT B (metG B) (t + 1)) ∧ TD K B (upd (upd H8 Fd (.dK (mergeK kvs ms))) Ed (.dK (mergeK evs es))) Ed (itO B st (t + 1)) ∧ (gr' = true → t + 1 ≤ (dom B (itT B (metG B) (t + 1))).length + (dom B (itO B st (t + 1))).length) ∧ (gr' = false → itO B st (t + 1) = itO B st (2 * B.kinds.length)) := fun c H8 s8 ec => by
          have s58 := s7.trans s8
          have hFd8 := s58 _ _ hFd5
          have hEd8 := s58 _ _ hEd5
          obtain ⟨me, tkm⟩ := (tk5.tups (Tups.same s58)).merge (tk7.tups (Tups.same s8)) fun n hn => moreJ_f hn
          obtain ⟨me', ekm⟩ := (ek5.tups (Tups.same s58)).merge (ek7.tups (Tups.same s8)) fun n hn => moreJ_f hn
          have TF : Tups H8 (upd (upd H8 Fd (.dK (mergeK kvs ms))) Ed (.dK (mergeK evs es))) := fun b xs hb => by
            rw [upd_ne (fun z => by rw [z, hEd8] at hb; cases hb), upd_ne (fun z => by rw [z, hFd8] at hb; cases hb)]
            exact hb
          have upT : ∀ n, (f n).isSome = true → (itT B (metG B) (t + 1) n).isSome = true := fun n hn => by
            obtain ⟨T, hT⟩ := Option.isSome_iff_exists.mp hn
            rw [esT, sweep_some hT]
            rfl
          have upO : ∀ n, (e n).isSome = true → (itO B st (t + 1) n).isSome = true := fun n hn => by
            obtain ⟨T, hT⟩ := Option.isSome_iff_exists.mp hn
            rw [esO, sweep_some hT]
            rfl
          have leT : (dom B f).length ≤ (dom B (itT B (metG B) (t + 1))).length := nodup_sub (ok.names.nd.sublist List.filter_sublist) fun x hx => mem_dom.mpr ⟨(mem_dom.mp hx).1, upT x (mem_dom.mp hx).2⟩
          have leO : (dom B e).length ≤ (dom B (itO B st (t + 1))).length := nodup_sub (ok.names.nd.sublist List.filter_sublist) fun x hx => mem_dom.mpr ⟨(mem_dom.mp hx).1, upO x (mem_dom.mp hx).2⟩
          refine ⟨c, ⟨_, _, _, _, _, _, _, _, rfl⟩, fun x o n1 n2 h => ?_, ?_, ?_, fun z => ?_, fun z => ?_⟩
          · rw [upd_ne n2, upd_ne n1]
            exact s58 _ _ (e5 x o n1 n2 h)
          · rw [me] at TF ⊢
            refine ⟨_, by rw [upd_ne FE]; exact upd_same, ?_⟩
            rw [esT, ← sweep_more]
            exact tkm.tups TF
          · rw [me'] at TF ⊢
            refine ⟨_, upd_same, ?_⟩
            rw [esO, ← sweep_more]
            exact ekm.tups TF
          · rw [ec, Bool.or_eq_true] at z
            rcases z with z | z
            · have hne : ¬ ∀ n, moreJ (metG B (dom B f)) (partsBy f) f B.kinds n = none := fun y => by
                rw [tk7.isEmpty.mpr y] at z
                cases z
              obtain ⟨n, hn⟩ := Classical.not_forall.mp hne
              have hs : (moreJ (metG B (dom B f)) (partsBy f) f B.kinds n).isSome = true := Option.isSome_iff_ne_none.mpr hn
              have h0 := moreJ_f hs
              have := dom_lt ok upT (tk7.sub hs) h0 (by
                rw [esT, ← sweep_more]
                try dsimp only
                rw [h0]
                exact hs)
              omega
            · have hne : ¬ ∀ n, moreJ (okO B st f e) (partsO st f e) e B.kinds n = none := fun y => by
                rw [ek7.isEmpty.mpr y] at z
                cases z
              obtain ⟨n, hn⟩ := Classical.not_forall.mp hne
              have hs : (moreJ (okO B st f e) (partsO st f e) e B.kinds n).isSome = true := Option.isSome_iff_ne_none.mpr hn
              have h0 := moreJ_f hs
              have := dom_lt ok upO (ek7.sub hs) h0 (by
                rw [esO, ← sweep_more]
                try dsimp only
                rw [h0]
                exact hs)
              omega
          · rw [ec, Bool.or_eq_false_iff] at z
            have haT := tk7.isEmpty.mp (by simpa using z.1)
            have haO := ek7.isEmpty.mp (by simpa using z.2)
            have eT : itT B (metG B) (t + 1) = itT B (metG B) t := by
              rw [esT, hf, ← sweep_more]
              refine funext fun n => ?_
              try dsimp only
              rw [haT n]
              cases f n <;> rfl
            have eO : itO B st (t + 1) = itO B st t := by
              rw [esO, he, ← sweep_more]
              refine funext fun n => ?_
              try dsimp only
              rw [haO n]
              cases e n <;> rfl
            rw [eO]
            exact itO_stop ok tl eT eO
        refine ⟨_, rfl, fun E0 nE0 => ?_⟩
        have s8 : Same H7 (upd H7 E0 (.dK [])) := same_new (Same.refl H7) nE0
        have h8 : upd H7 E0 (.dK []) E0 = some (.dK []) := upd_same
        generalize upd H7 E0 (.dK []) = H8 at s8 h8
        refine ⟨Dm, E0, ms, rfl, rfl, s8 _ _ hDm7, h8, _, rfl, ?_⟩
        refine ite2 (fun e1 => ?_) fun e1 => ?_
        · have e1 : (!ms.isEmpty) = true := e1
          have s58 := s7.trans s8
          refine ⟨_, rfl, Fd, rfl, .inl ⟨_, .inl (s58 _ _ hFd5)⟩, _, rfl, Dm, kvs, ms, rfl, s58 _ _ hFd5, s8 _ _ hDm7, FD, by omega, ?_⟩
          have hEd9 : upd H8 Fd (.dK (mergeK kvs ms)) Ed = some (.dK evs) := by rw [upd_ne (Ne.symm FE)]; exact s58 _ _ hEd5
          refine ⟨_, rfl, Ed, rfl, .inl ⟨_, .inl hEd9⟩, _, rfl, Ee, evs, es, rfl, hEd9, ?_, EE, by omega, ?_⟩
          · rw [upd_ne (fun z => by rw [← z, nEe5] at hFd5; cases hFd5)]
            exact s8 _ _ hEe7
          · exact rest true H8 s8 (by rw [e1]; rfl)
        · have e1 : (!ms.isEmpty) = false := by simpa using e1
          refine ⟨_, rfl, fun E1 nE1 => ?_⟩
          have s9 : Same H8 (upd H8 E1 (.dK [])) := same_new (Same.refl H8) nE1
          have h9 : upd H8 E1 (.dK []) E1 = some (.dK []) := upd_same
          generalize upd H8 E1 (.dK []) = H9 at s9 h9
          have s79 := s8.trans s9
          have s59 := s7.trans s79
          refine ⟨Ee, E1, es, rfl, rfl, s79 _ _ hEe7, h9, ?_⟩
          refine ⟨_, rfl, Fd, rfl, .inl ⟨_, .inl (s59 _ _ hFd5)⟩, _, rfl, Dm, kvs, ms, rfl, s59 _ _ hFd5, s79 _ _ hDm7, FD, by omega, ?_⟩
          have hEd9 : upd H9 Fd (.dK (mergeK kvs ms)) Ed = some (.dK evs) := by rw [upd_ne (Ne.symm FE)]; exact s59 _ _ hEd5
          refine ⟨_, rfl, Ed, rfl, .inl ⟨_, .inl hEd9⟩, _, rfl, Ee, evs, es, rfl, hEd9, ?_, EE, by omega, ?_⟩
          · rw [upd_ne (fun z => by rw [← z, nEe5] at hFd5; cases hFd5)]
            exact s79 _ _ hEe7
          · exact rest (!es.isEmpty) H9 s79 (by rw [e1, Bool.false_or])
theorem scOldT : FnScope ["rulebook", "struck", "name"] ["rulebook", "struck", "name"] (defScope sOldT) := ⟨rfl, rfl, rfl, by decide +kernel, rfl, by decide +kernel, by decide +kernel⟩
theorem ok_oldT {f : Addr} {fd : FuncData} (F : Fun K "old_tree" "old_tree" sOldT f fd) (CT : Cal P w K mg base 6 "old_trees" ["rulebook", "struck"] (spOldTs K)) : FnOk P w K mg base CX0 7 f fd ["rulebook", "struck", "name"] (spOldT K) := by
  refine F.ok scOldT (fun vs H Q E h => ?_) (fun cdv A outer s H vs Q E hr h => ?_)
  · obtain ⟨p, S, B, st, n, rfl, _⟩ := h
    rfl
  · obtain ⟨p, S, B, st, n, rfl, rp, ok, hS, kQ⟩ := h
    have hu0 := hu_of hr
    refine ⟨_, pss_one (ps_ret (pe_dget1 hu0 (pe_cal CT hr rfl (pa_cons (pv 0) (pa_cons (pv 1) pa_nil))) (pv 2) ⟨rfl, rfl, rfl, rfl⟩)), ?_⟩
    refine ⟨_, rfl, _, rfl, p, S, B, st, rfl, rp, ok, hS, fun d H' s nd td => ⟨d, rfl, td.isD, _, rfl, ?_⟩⟩
    obtain ⟨o, g, r⟩ := td.get n
    exact ⟨o, g, kQ _ H' s r⟩
end
end Gy

namespace Gy
open PySem L2 PySem.Spec PyProof.Rows
/-! ### is_integer, is_tree, levels_of -/
def Trs.ol : Trs → List (Option Tr)
  | .nil => []
  | .row r => none :: r.ol
  | .kid t r => some t :: r.ol
theorem ds_ol : ∀ ps : Trs, ps.ds = ps.ol.map optD
  | .nil => rfl
  | .row r => by
    show D.non :: r.ds = _
    rw [ds_ol r]
    rfl
  | .kid t r => by
    show t.d :: r.ds = _
    rw [ds_ol r]
    rfl
theorem isTrs_len {B : Bk} : ∀ {g : List Nd} {ps : Trs}, IsTrs B g ps → ps.ol.length = g.length
  | _, _, .nil => rfl
  | _, _, .row h => by
    show _ + 1 = _ + 1
    rw [isTrs_len h]
  | _, _, .kid _ h => by
    show _ + 1 = _ + 1
    rw [isTrs_len h]
theorem isTrs_row {B : Bk} : ∀ {g : List Nd} {ps : Trs} {i : Nat} {r : Str} {t m : Int}, IsTrs B g ps → g[i]? = some (.row r t m) → ps.ol[i]? = some none
  | _, _, 0, _, _, _, .row _, _ => rfl
  | _, _, i + 1, _, _, _, .row h, e => isTrs_row (i := i) h e
  | _, _, 0, _, _, _, .kid _ _, e => by cases e
  | _, _, i + 1, _, _, _, .kid _ h, e => isTrs_row (i := i) h e
theorem isTrs_kid {B : Bk} : ∀ {g : List Nd} {ps : Trs} {i : Nat} {n : Str} {a t m : Int}, IsTrs B g ps → g[i]? = some (.knd n a t m) → ∃ T, ps.ol[i]? = some (some T) ∧ IsTr B n T ∧ T.lev ≤ ps.lev
  | _, _, 0, _, _, _, _, .row _, e => by cases e
  | _, _, i + 1, _, _, _, _, .row h, e => isTrs_kid (i := i) h e
  | _, _, 0, _, _, _, _, .kid q _, e => by
    cases e
    exact ⟨_, rfl, q, Nat.le_max_left _ _⟩
  | _, _, i + 1, _, _, _, _, .kid _ h, e => by
    obtain ⟨T, h1, h2, h3⟩ := isTrs_kid (i := i) h e
    exact ⟨T, h1, h2, Nat.le_trans h3 (Nat.le_max_right _ _)⟩
mutual
theorem IsTr.fine {B : Bk} (ok : BOk B) : ∀ {n : Str} {t : Tr}, IsTr B n t → ∃ N, t.d.Fine N (2 * t.lev)
  | _, _, @IsTr.mk _ k i g ps hk hg hm h => by
    obtain ⟨N, q⟩ := IsTrs.fine ok h
    have okk := ok.kinds k hk
    have l4 := okk.len
    have il := (List.getElem?_eq_some_iff.mp hg).1
    exact ⟨4 + N, (mk_fine (n := k.name) (i := i) (ok.name_in hk) (by omega) q).mono (Nat.le_refl _) (by show 2 * ps.lev + 2 ≤ 2 * (1 + ps.lev); omega)⟩
theorem IsTrs.fine {B : Bk} (ok : BOk B) : ∀ {g : List Nd} {ps : Trs}, IsTrs B g ps → ∃ N, FineL ps.ds N (2 * ps.lev)
  | _, _, .nil => ⟨0, FineL.nil⟩
  | _, _, @IsTrs.row _ r t m g ps h => by
    obtain ⟨N, q⟩ := IsTrs.fine ok h
    exact ⟨1 + N, (FineL.cons fine_non q).mono (Nat.le_refl _) (by show max 0 (2 * ps.lev) ≤ 2 * ps.lev; omega)⟩
  | _, _, @IsTrs.kid _ n a t m g T ps h h' => by
    obtain ⟨N, q⟩ := IsTr.fine ok h
    obtain ⟨N', q'⟩ := IsTrs.fine ok h'
    exact ⟨N + N', (FineL.cons q q').mono (Nat.le_refl _) (by show max (2 * T.lev) (2 * ps.lev) ≤ 2 * max T.lev ps.lev; omega)⟩
end
theorem Tr.lev_pos : ∀ t : Tr, 1 ≤ t.lev
  | .mk n i ps => by show 1 ≤ 1 + ps.lev; omega
theorem inV_nats (i : Nat) : ∀ is : List Nat, inV (.int (i : Nat)) (is.map fun i : Nat => V.int i) = decide (i ∈ is)
  | [] => rfl
  | s :: is => by
    have ih := inV_nats i is
    unfold inV at ih ⊢
    rw [List.map_cons, List.any_cons, ih]
    show (((s : Int) == (i : Int)) || decide (i ∈ is)) = _
    by_cases e : s = i
    · subst e
      simp
    · have : ¬ ((s : Nat) : Int) = ((i : Nat) : Int) := by omega
      rw [beq_eq_false_iff_ne.mpr this, Bool.false_or]
      exact decide_eq_decide.mpr ⟨fun h => List.mem_cons_of_mem _ h, fun h => (List.mem_cons.mp h).elim (fun z => absurd z.symm e) id⟩
theorem flat_of_nats (is : List Nat) : (is.map fun i : Nat => V.int i).all flatV = true := List.all_eq_true.mpr fun v hv => by
  obtain ⟨x, _, rfl⟩ := List.mem_map.mp hv
  rfl
theorem natIn_read {K : PySem.W.Frag} {neg : Bool} {i : Nat} {a : Addr} {is : List Nat} {H : Hp} {Q : VK} (h : SqQ H a (is.map fun i : Nat => V.int i)) (q : Q (.bl (if neg then !decide (i ∈ is) else decide (i ∈ is))) H) : rIn K neg (.int (i : Nat)) (.ref a) H Q := by
  refine ⟨a, _, rfl, h.seq, rfl, flat_of_nats is, ?_⟩
  rw [inV_nats]
  exact q
theorem nd_f {a b : V} (h : a = b) : (!decide (a = b)) = false := by rw [decide_eq_true h]; rfl
/-- a tree as it lies -/
theorem Tr.rp {K : PySem.W.Frag} {H : Hp} {v : V} {n : Str} {i : Nat} {ps : Trs} (r : Rp K H v (Tr.mk n i ps).d) : ∃ ta pa pvs, v = .ref ta ∧ H ta = some (.tup [.str n, .int (i : Nat), .ref pa]) ∧ H pa = some (.tup pvs) ∧ RpAll K H pvs (ps.ol.map optD) := by
  unfold Tr.d at r
  cases r with
  | tup e r =>
    cases r with
    | cons r1 r =>
      cases r with
      | cons r2 r =>
        cases r with
        | cons r3 r =>
          cases r
          cases r1
          cases r2
          cases r3 with
          | tup e3 r3 => exact ⟨_, _, _, rfl, e, e3, by rw [← ds_ol]; exact r3⟩
abbrev sIsInt : Stmt := top 1
def spIsInt : Sp := fun vs H Q _ => ∃ i : Int, vs = [.int i] ∧ Q (.bl true) H
abbrev sIsTree : Stmt := top 25
def spIsTree (K : PySem.W.Frag) (d : Nat) : Sp := fun vs H Q _ => ∃ (p : Addr) (v : V) (B : Bk) (n : Str) (t : Tr), vs = [.ref p, .str n, v] ∧ Rp K H (.ref p) B.d ∧ BOk B ∧ Rp K H v t.d ∧ IsTr B n t ∧ t.lev ≤ d ∧ ∀ H', Same H H' → Q (.bl true) H'
abbrev sLevels : Stmt := top 29
def spLevels (K : PySem.W.Frag) (d : Nat) : Sp := fun vs H Q _ => ∃ (v : V) (t : Tr), vs = [v] ∧ Rp K H v t.d ∧ t.lev ≤ d ∧ (∃ (B : Bk) (n : Str), BOk B ∧ IsTr B n t) ∧ ∀ H', Same H H' → Q (.int (t.lev : Nat)) H'
section
variable {P : Program} {w : World} {K : PySem.W.Frag} {mg : Str → Option Value} {base : Heap}
theorem scIsInt : FnScope ["thing"] ["thing"] (defScope sIsInt) := ⟨rfl, rfl, rfl, by decide +kernel, rfl, by decide +kernel, by decide +kernel⟩
theorem ok_isInt {f : Addr} {fd : FuncData} (F : Fun K "is_integer" "is_integer" sIsInt f fd) (zi : mg "isinstance" = none) (zn : mg "int" = none) (zb : mg "bool" = none) : FnOk P w K mg base CX0 1 f fd ["thing"] spIsInt := by
  refine F.ok scIsInt (fun vs H Q E h => ?_) (fun cdv A outer s H vs Q E hr h => ?_)
  · obtain ⟨i, rfl, _⟩ := h
    rfl
  · obtain ⟨i, rfl, q⟩ := h
    refine ⟨_, pss_one (ps_ret (pe_and (pe_callB call_isi (by rfl) zi boot_isinstance (pa_cons (pv 0) (pa_cons (pe_bltn (v := .ty "int") (by rfl) zn boot_int rfl) pa_nil))) (pe_one (pe_not (pe_callB call_isi (by rfl) zi boot_isinstance (pa_cons (pv 0) (pa_cons (pe_bltn (v := .ty "bool") (by rfl) zb boot_bool rfl) pa_nil))))))), ?_⟩
    refine ⟨_, rfl, .int i, .ty "int", .type "int", .type "int", true, rfl, .ty _, .base (.int i), kit_ty (by decide +kernel), true, rfl, iteT ⟨_, rfl, .int i, .ty "bool", .type "int", .type "bool", false, rfl, .ty _, .base (.int i), kit_ty (by decide +kernel), false, rfl, q⟩⟩
theorem scIsTree : FnScope ["rulebook", "name", "thing", "ground", "need", "part"] ["rulebook", "name", "thing"] (defScope sIsTree) := ⟨rfl, rfl, rfl, by decide +kernel, rfl, by decide +kernel, by decide +kernel⟩
theorem ok_isTree {f : Addr} {fd : FuncData} {tk : Tok} (F : Fun K "is_tree" "is_tree" sIsTree f fd) (hm : mg "is_tree" = some (.ref f)) (hb : L2.Binds K fd ["rulebook", "name", "thing"] []) (hk : PySem.W.keepIn K (.ref f) = true) (gR : mg "ROW" = some (.str "row" tk))
    (zi : mg "isinstance" = none) (zl : mg "len" = none) (zt : mg "tuple" = none) (zs : mg "str" = none) (zz : mg "zip" = none) (CI : Cal P w K mg base 1 "is_integer" ["thing"] spIsInt) (CL : Cal P w K mg base 9 "live_grounds" ["rulebook", "name"] (spLiveG K)) (CG : Cal P w K mg base 4 "grounds_of" ["rulebook", "name"] (spGrounds K)) :
    ∀ d : Nat, FnOk P w K mg base CX0 (10 + d) f fd ["rulebook", "name", "thing"] (spIsTree K d)
  | 0 => F.ok (k := 9) scIsTree (fun vs H Q E h => by
      obtain ⟨p, v, B, n, t, rfl, _⟩ := h
      rfl) fun cdv A outer s H vs Q E hr h => by
      obtain ⟨p, v, B, n, t, _, _, _, _, _, hl, _⟩ := h
      have := t.lev_pos
      omega
  | d + 1 => by
    have IH := ok_isTree F hm hb hk gR zi zl zt zs zz CI CL CG d
    have CT : Cal P w K mg base (10 + d) "is_tree" ["rulebook", "name", "thing"] (spIsTree K d) := ⟨f, fd, hm, hb, hk, IH⟩
    refine F.ok (k := 10 + d) scIsTree (fun vs H Q E h => ?_) (fun cdv A outer s H vs Q E hr h => ?_)
    · obtain ⟨p, v, B, n, t, rfl, _⟩ := h
      rfl
    · obtain ⟨p, v, B, n, t, rfl, rp, ok, rt, it, hl, kQ⟩ := h
      have nd := scIsTree.nd
      have hr1 := hr.mono (by omega : 1 ≤ 10 + d)
      have hr4 := hr.mono (by omega : 4 ≤ 10 + d)
      have hr9 := hr.mono (by omega : 9 ≤ 10 + d)
      refine ⟨_, pss_cons (ps_if (PW.pt (pw_or (pt_not (pt_val (pe_callB call_isi (by rfl) zi boot_isinstance (pa_cons (pv 2) (pa_cons (pe_bltn (v := .ty "tuple") (by rfl) zt boot_tuple rfl) pa_nil))))) (pw_or (pt_cmpR op_ne (pe_callB call_len_seq (by rfl) zl PySem.boot_len (pa_cons (pv 2) pa_nil)) pe_int (nomark _)) (pw_or (pt_not (pt_val (pe_callB call_isi (by rfl) zi boot_isinstance (pa_cons (pe_ix ix_tup (pv 2) pe_int (fun _ _ => rfl)) (pa_cons (pe_bltn (v := .ty "str") (u := .type "str") (by rfl) zs (by decide +kernel) rfl) pa_nil))))) (pw_or1 (pt_cmpR op_ne (pe_ix ix_tup (pv 2) pe_int (fun _ _ => rfl)) (pv 1) (nomark _))))))) (pss_one (ps_ret pe_bl)) pss_nil)
        (pss_cons (ps_if (PW.pt (pw_or (pt_not (pt_val (pe_cal CI hr1 rfl (pa_cons (pe_ix ix_tup (pv 2) pe_int (fun _ _ => rfl)) pa_nil)))) (pw_or (pt_cmpR op_notIn_seq (pe_ix ix_tup (pv 2) pe_int (fun _ _ => rfl)) (pe_cal CL hr9 rfl (pa_cons (pv 0) (pa_cons (pv 1) pa_nil))) (by rfl)) (pw_or1 (pt_not (pt_val (pe_callB call_isi (by rfl) zi boot_isinstance (pa_cons (pe_ix ix_tup (pv 2) pe_int (fun _ _ => rfl)) (pa_cons (pe_bltn (v := .ty "tuple") (by rfl) zt boot_tuple rfl) pa_nil))))))))) (pss_one (ps_ret pe_bl)) pss_nil)
        (pss_cons (ps_set (i := 3) nd rfl (Or.inl rfl) (pe_ix ix_tup (pe_cal CG hr4 rfl (pa_cons (pv 0) (pa_cons (pv 1) pa_nil))) (pe_ix ix_tup (pv 2) pe_int (fun _ _ => rfl)) (fun _ _ => rfl)))
        (pss_cons (ps_if (pt_cmpR op_ne (pe_callB call_len_seq (by rfl) zl PySem.boot_len (pa_cons (pe_ix ix_tup (pv 2) pe_int (fun _ _ => rfl)) pa_nil)) (pe_callB call_len_seq (by rfl) zl PySem.boot_len (pa_cons (pv 3) pa_nil)) (nomark _)) (pss_one (ps_ret pe_bl)) pss_nil)
        (pss_cons (ps_for PassesOwn.never rfl (RZ.pi_zipA (by rfl) zz (pa_cons (pv 3) (pa_cons (pe_ix ix_tup (pv 2) pe_int (fun _ _ => rfl)) pa_nil))) (pg_tup rfl (pgs_cons (pg_name (i := 4) nd rfl (Or.inl rfl)) (pgs_cons (pg_name (i := 5) nd rfl (Or.inl rfl)) pgs_nil))) (pss_one (ps_if (PW.pt (pw_or (PW.pt (pw_and (pt_cmpR op_eq (pe_ix ix_tup (pv 4) pe_int (fun _ _ => rfl)) (pe_glob (v := .str "row") rfl gR ⟨_, rfl⟩) (nomark _)) (pw_and1 (pt_cmpR op_notN (pv 5) pe_non (nomark _))))) (pw_or1 (PW.pt (pw_and (pt_cmpR op_ne (pe_ix ix_tup (pv 4) pe_int (fun _ _ => rfl)) (pe_glob (v := .str "row") rfl gR ⟨_, rfl⟩) (nomark _)) (pw_and1 (pt_not (pt_val (pe_cal CT hr rfl (pa_cons (pv 0) (pa_cons (pe_ix ix_tup (pv 4) pe_int (fun _ _ => rfl)) (pa_cons (pv 5) pa_nil)))))))))))) (pss_one (ps_ret pe_bl)) pss_nil)))
        (pss_one (ps_ret pe_bl)))))), ?_⟩
      cases it with
      | @mk k i g ps hkk hg hmb hps =>
        obtain ⟨ta, pa, pvs, rfl, hta, hpa, rps⟩ := Tr.rp rt
        have lps : pvs.length = g.length := by rw [rps.len, List.length_map, isTrs_len hps]
        have hl' : ps.lev ≤ d := by
          have : 1 + ps.lev ≤ d + 1 := hl
          omega
        -- the first if
        refine ⟨_, rfl, .ref ta, .ty "tuple", .type "tuple", .type "tuple", true, rfl, .ty _, .base (.tup hta), kit_ty (by decide +kernel), true, rfl, iteF ?_⟩
        refine ⟨_, rfl, ta, _, rfl, .inr (SqT.of hta), rfl, _, rfl, ?_⟩
        rw [nd_f (show V.int (([V.str k.name, .int (i : Nat), .ref pa].length : Nat) : Int) = V.int 3 from rfl)]
        refine iteF ⟨_, rfl, ta, _, 0, .str k.name, rfl, rfl, SqT.of hta, atI_nat (j := 0) rfl, .str k.name, .ty "str", .type "str", .type "str", true, rfl, .ty _, .base (.str k.name), kit_ty (by decide +kernel), true, rfl, iteF ?_⟩
        refine ⟨_, rfl, ta, _, 0, .str k.name, rfl, rfl, SqT.of hta, atI_nat (j := 0) rfl, _, rfl, rfl, _, rfl, ?_⟩
        rw [nd_f rfl]
        refine iteF (next_open ?_)
        -- the second if
        refine ⟨_, rfl, ta, _, 1, .int (i : Nat), rfl, rfl, SqT.of hta, atI_nat (j := 1) rfl, i, rfl, true, rfl, iteF ?_⟩
        refine ⟨_, rfl, ta, _, 1, .int (i : Nat), rfl, rfl, SqT.of hta, atI_nat (j := 1) rfl, _, rfl, _, rfl, p, B, k, rfl, rp, ok, hkk, fun L H1 s1 nL hL => ?_⟩
        refine natIn_read (neg := true) (.inl hL) ⟨_, rfl, ?_⟩
        show if (!decide (i ∈ liveL B B.bear k.gs)) = true then _ else _
        rw [decide_eq_true (mem_live hg hmb)]
        have hta1 := s1 _ _ hta
        have hpa1 := s1 _ _ hpa
        refine iteF ⟨_, rfl, ta, _, 2, .ref pa, rfl, rfl, SqT.of hta1, atI_nat (j := 2) rfl, .ref pa, .ty "tuple", .type "tuple", .type "tuple", true, rfl, .ty _, .base (.tup hpa1), kit_ty (by decide +kernel), true, rfl, iteF (next_open ?_)⟩
        -- ground
        refine ⟨_, rfl, _, rfl, p, B, k, rfl, rp.same s1, ok, hkk, fun gt gvs hgt rg => ?_⟩
        obtain ⟨gv, hgv, rgv⟩ := at_to rg hg
        obtain ⟨ga, nvs, rfl, hga, rn⟩ := gd_rp rgv
        have ln : nvs.length = g.length := by rw [rn.len, List.length_map]
        refine ⟨_, rfl, ta, _, 1, .int (i : Nat), rfl, rfl, SqT.of hta1, atI_nat (j := 1) rfl, gt, _, i, .ref ga, rfl, rfl, SqT.of hgt, atI_nat hgv, ?_⟩
        try dsimp only
        show tSeq _ _ _ [some (.ref p), some (.str k.name), some (.ref ta), some (.ref ga), none, none] H1
        refine ⟨_, rfl, ta, _, 2, .ref pa, rfl, rfl, SqT.of hta1, atI_nat (j := 2) rfl, pa, _, rfl, .inr (SqT.of hpa1), _, rfl, ga, _, rfl, .inr (SqT.of hga), rfl, _, rfl, ?_⟩
        rw [nd_f (by rw [lps, ln])]
        refine iteF (next_open ?_)
        try dsimp only
        show tSeq _ _ _ [some (.ref p), some (.str k.name), some (.ref ta), some (.ref ga), none, none] H1
        refine ⟨_, rfl, _, rfl, ta, _, 2, .ref pa, rfl, rfl, SqT.of hta1, atI_nat (j := 2) rfl, ga, pa, nvs, pvs, rfl, .inr ⟨SqT.of hga, SqT.of hpa1, RZ.for_zipT (xs := nvs) (ys := pvs) (by rw [ln, lps]) (fun j σ' H' => (∃ x4 x5, σ' = [some (.ref p), some (.str k.name), some (.ref ta), some (.ref ga), x4, x5]) ∧ Same H1 H')
          ⟨⟨_, _, rfl⟩, Same.refl H1⟩ (fun j σ' H' z => ⟨SqT.of (z.2 _ _ hga), SqT.of (z.2 _ _ hpa1)⟩) ?_ ?_⟩⟩
        · rintro j x y T σ' H' hx hy ⟨⟨x4, x5, rfl⟩, s2⟩ nT
          obtain ⟨nn, hn, rx⟩ := at_of rn hx
          obtain ⟨o, ho, ry⟩ := at_of rps hy
          have s3 : Same H' (upd H' T (.tup [x, y])) := same_new (Same.refl H') nT
          have hT : upd H' T (.tup [x, y]) T = some (.tup [x, y]) := upd_same
          generalize upd H' T (.tup [x, y]) = H3 at s3 hT
          have s13 := s2.trans s3
          have rx3 := rx.same s13
          have ry3 := ry.same (s1.trans s13)
          refine ⟨T, _, rfl, SqT.of hT, rfl, _, _, rfl, _, _, rfl, rfl, ?_⟩
          try dsimp only
          show tIfS _ _ _ _ [some (.ref p), some (.str k.name), some (.ref ta), some (.ref ga), some x, some y] H3
          obtain ⟨u, rfl, hu⟩ := nd_rp rx3
          cases nn with
          | row r t m =>
            have eo := isTrs_row hps hn
            rw [ho] at eo
            cases eo
            have ey : y = .non := by cases ry3; rfl
            subst ey
            refine ⟨_, rfl, u, _, 0, .str "row", rfl, rfl, SqT.of hu, atI_nat (j := 0) rfl, rfl, _, rfl, ?_⟩
            have z : decide (V.str "row" = V.str "row") = true := decide_eq_true rfl
            rw [z]
            refine iteT ⟨_, rfl, rfl, _, rfl, iteF ?_⟩
            refine ⟨_, rfl, u, _, 0, .str "row", rfl, rfl, SqT.of hu, atI_nat (j := 0) rfl, rfl, _, rfl, ?_⟩
            rw [nd_f rfl]
            exact iteF (iteF ⟨⟨_, _, rfl⟩, s13⟩)
          | knd n' a t m =>
            obtain ⟨U, hU, iU, lU⟩ := isTrs_kid hps hn
            rw [ho] at hU
            cases hU
            refine ⟨_, rfl, u, _, 0, .str "kind", rfl, rfl, SqT.of hu, atI_nat (j := 0) rfl, rfl, _, rfl, ?_⟩
            have z : decide (V.str "kind" = V.str "row") = false := by decide +kernel
            rw [z]
            refine iteF (iteF ⟨_, rfl, u, _, 0, .str "kind", rfl, rfl, SqT.of hu, atI_nat (j := 0) rfl, rfl, _, rfl, ?_⟩)
            rw [z]
            refine iteT ⟨_, rfl, _, rfl, u, _, 1, .str n', rfl, rfl, SqT.of hu, atI_nat (j := 1) rfl, _, rfl, p, _, B, n', U, rfl, rp.same (s1.trans s13), ok, ry3, iU, Nat.le_trans lU hl', fun H4 s4 => ⟨true, rfl, iteF ⟨⟨_, _, rfl⟩, s13.trans s4⟩⟩⟩
        · rintro σ' H' ⟨⟨x4, x5, rfl⟩, s2⟩
          exact kQ H' (s1.trans s2)
end
end Gy

namespace Gy
open PySem L2 PySem.Spec PyProof.Rows
/-! ### levels_of, and the law's -/
theorem ints_of {K : PySem.W.Frag} {H : Hp} : ∀ {ns : List Int} {xs : List V}, RpAll K H xs (ns.map D.int) → xs = ns.map V.int
  | [], _, .nil => rfl
  | n :: ns, _, .cons r rs => by
    cases r
    rw [ints_of rs]
    rfl
def levO : Option Tr → Nat
  | some T => T.lev
  | none => 0
theorem lev_ol : ∀ ps : Trs, lmx ((ps.ol.filter Option.isSome).map levO) = ps.lev
  | .nil => rfl
  | .row r => lev_ol r
  | .kid t r => by
    show max t.lev (lmx ((r.ol.filter Option.isSome).map levO)) = max t.lev r.lev
    rw [lev_ol r]
theorem mx_is {l : List Nat} {m : Int} (h : m ∈ ((0 : Int) :: l.map fun x : Nat => (x : Int))) (hle : ∀ x ∈ ((0 : Int) :: l.map fun x : Nat => (x : Int)), x ≤ m) : m = (lmx l : Nat) := by
  have h1 : ((lmx l : Nat) : Int) ≤ m := by
    have : lmx l ≤ m.toNat := lmx_le fun x hx => by
      have := hle x (List.mem_cons_of_mem _ (List.mem_map.mpr ⟨x, hx, rfl⟩))
      omega
    have := hle 0 List.mem_cons_self
    omega
  rcases List.mem_cons.mp h with e | e
  · omega
  · obtain ⟨x, hx, e⟩ := List.mem_map.mp e
    have := lmx_ge hx
    omega
theorem optD_flat : ∀ o : Option Tr, (optD o).flat = true
  | some t => t.flat
  | none => rfl
abbrev sLevelsL : Stmt := top 49
section
variable {P : Program} {w : World} {K : PySem.W.Frag} {mg : Str → Option Value} {base : Heap}
theorem scLevels : FnScope ["tree", "part"] ["tree"] (defScope sLevels) := ⟨rfl, rfl, rfl, by decide +kernel, rfl, by decide +kernel, by decide +kernel⟩
theorem ok_levels {f : Addr} {fd : FuncData} (F : Fun K "levels_of" "levels_of" sLevels f fd) (hm : mg "levels_of" = some (.ref f)) (hb : L2.Binds K fd ["tree"] []) (hk : PySem.W.keepIn K (.ref f) = true) (zx : mg "max" = none) : ∀ d : Nat, FnOk P w K mg base CX0 (1 + d) f fd ["tree"] (spLevels K d)
  | 0 => F.ok (k := 0) scLevels (fun vs H Q E h => by
      obtain ⟨v, t, rfl, _⟩ := h
      rfl) fun cdv A outer s H vs Q E hr h => by
      obtain ⟨v, t, _, _, hl, _⟩ := h
      have := t.lev_pos
      omega
  | d + 1 => by
    have IH := ok_levels F hm hb hk zx d
    have CT : Cal P w K mg base (1 + d) "levels_of" ["tree"] (spLevels K d) := ⟨f, fd, hm, hb, hk, IH⟩
    refine F.ok (k := 1 + d) scLevels (fun vs H Q E h => ?_) (fun cdv A outer s H vs Q E hr h => ?_)
    · obtain ⟨v, t, rfl, _⟩ := h
      rfl
    · obtain ⟨v, t, rfl, rt, hl, ⟨B, n, ok, it⟩, kQ⟩ := h
      have nd := scLevels.nd
      have hz := sizeLine_eq
      refine ⟨_, pss_one (ps_ret (pe_op op_add pe_int (pe_callB (cr_max rfl) (by rfl) zx (by decide +kernel) (pa_cons (pe_op op_cat (pe_lst (pa_cons pe_int pa_nil)) (pe_lc (own := [("part", 1)]) (g := gName 1) (tt := tTest (tOp rNotN (tVar 1) (tC .non))) (te := tCall (spLevels K d) [] E0 (tCons (tVar 1) tNil)) rfl nd (pi_tup (pe_ix ix_tup (pv 0) pe_int (fun _ _ => rfl)))
        (blkOk_by (own := [("part", 1)]) (N := ["tree", "part"]) (sc := defScope sLevels) (by decide +kernel)) (fun _ _ _ _ _ => pg_name (i := 1) nd rfl (Or.inl rfl)) (fun _ _ _ _ _ => pts_one (pt_cmpR (r := rNotN) op_notN (pv 1) pe_non (nomark _))) (fun _ _ _ _ _ => pe_cal CT hr rfl (pa_cons (pv 1) pa_nil)))) pa_nil)))), ?_⟩
      cases it with
      | @mk k i g ps hkk hg hmb hps =>
        obtain ⟨ta, pa, pvs, rfl, hta, hpa, rps⟩ := Tr.rp rt
        have okg := (ok.kinds k hkk).gs g (List.mem_of_getElem? hg)
        have l3 := okg.len
        have lol := isTrs_len hps
        have lps : pvs.length = ps.ol.length := by rw [rps.len, List.length_map]
        have hl' : ps.lev ≤ d := by
          have : 1 + ps.lev ≤ d + 1 := hl
          omega
        refine ⟨by show 1 ≤ sizeLine; decide, fun Z nZ => ?_⟩
        have s1 : Same H (upd H Z (.lst [.int 0])) := same_new (Same.refl H) nZ
        have h1 : upd H Z (.lst [.int 0]) Z = some (.lst [.int 0]) := upd_same
        generalize upd H Z (.lst [.int 0]) = H1 at s1 h1
        refine ⟨_, rfl, ta, _, 2, .ref pa, rfl, rfl, SqT.of (s1 _ _ hta), atI_nat (j := 2) rfl, pa, rfl, ⟨_, SqT.of (s1 _ _ hpa)⟩, fun Dx nD => ?_⟩
        refine lc_filt (K := K) (walk_tup (xs := pvs)) ps.ol Option.isSome (fun o => D.int (levO o : Nat)) lps.symm (fun _ => rfl) nD (by omega) (fun H' s => SqT.of (s _ _ (s1 _ _ hpa))) ?_ ?_
        · rintro j o x H4 H5 R Q' hj ho s4 ⟨rfl, hx⟩ kR kQ'
          obtain ⟨o', ho', rx⟩ := at_of rps hx
          have eo : o = o' := by rw [ho] at ho'; exact Option.some.inj ho'
          subst eo
          have rx5 := rx.same (s1.trans s4)
          cases o with
          | none =>
            have ex : x = .non := by cases rx5; rfl
            subst ex
            exact ⟨rfl, _, rfl, rfl, _, rfl, iteF (kR _ (Same.refl _) rfl)⟩
          | some T =>
            obtain ⟨ta', _, _, ex, _⟩ : ∃ ta' n' i', x = .ref ta' ∧ n' = (0 : Nat) ∧ i' = (0 : Nat) := by
              cases T with
              | mk n' i' ps' =>
                obtain ⟨ta', _, _, e, _⟩ := Tr.rp rx5
                exact ⟨ta', 0, 0, e, rfl, rfl⟩
            subst ex
            have jg : j < g.length := by
              have := (List.getElem?_eq_some_iff.mp ho).1
              omega
            have iT : ∃ n', IsTr B n' T ∧ T.lev ≤ ps.lev := by
              cases hn : g[j]? with
              | none =>
                have := List.getElem?_eq_none_iff.mp hn
                omega
              | some nn =>
                cases nn with
                | row r t m =>
                  rw [isTrs_row hps hn] at ho
                  cases ho
                | knd n' a t m =>
                  obtain ⟨U, hU, iU, lU⟩ := isTrs_kid hps hn
                  rw [ho] at hU
                  cases hU
                  exact ⟨n', iU, lU⟩
            obtain ⟨n', iT, lT⟩ := iT
            refine ⟨rfl, _, rfl, rfl, _, rfl, iteT ⟨_, rfl, _, T, rfl, rx5, Nat.le_trans lT hl', ⟨B, n', ok, iT⟩, fun H6 s6 => kQ' _ H6 s6 rfl (.int _)⟩⟩
        · intro H4 ys s4 hD r
          have ez : ys = (((ps.ol.filter Option.isSome).map levO).map fun x : Nat => (x : Int)).map V.int := by
            refine ints_of (K := K) (H := H4) ?_
            rw [List.map_map, List.map_map]
            exact r
          subst ez
          have lf := List.length_filter_le Option.isSome ps.ol
          refine ⟨Z, Dx, _, _, rfl, rfl, s4 _ _ h1, hD, by rw [List.length_map, List.length_map, List.length_map]; show 1 + _ ≤ _; omega, fun u nu => ?_⟩
          have s5 := same_new (o := .lst ([V.int 0] ++ (((ps.ol.filter Option.isSome).map levO).map fun x : Nat => (x : Int)).map V.int)) (Same.refl H4) nu
          refine ⟨u, (0 : Int) :: ((ps.ol.filter Option.isSome).map levO).map fun x : Nat => (x : Int), rfl, SqL.of upd_same, by rw [List.length_cons]; omega, fun mx hmx hle => ?_⟩
          have e := mx_is hmx hle
          rw [lev_ol] at e
          subst e
          refine ⟨1, (ps.lev : Nat), rfl, rfl, ?_⟩
          have q := kQ _ ((s1.trans s4).trans s5)
          have e1 : ((Tr.mk k.name i ps).lev : Int) = 1 + (ps.lev : Nat) := by show ((1 + ps.lev : Nat) : Int) = _; omega
          rw [e1] at q
          exact q
theorem scLevelsL : FnScope ["_law_tree", "_law_part"] ["_law_tree"] (defScope sLevelsL) := ⟨rfl, rfl, rfl, by decide +kernel, rfl, by decide +kernel, by decide +kernel⟩
theorem ok_levelsL {f : Addr} {fd : FuncData} (F : Fun K "_law_levels" "_law_levels" sLevelsL f fd) (hm : mg "_law_levels" = some (.ref f)) (hb : L2.Binds K fd ["_law_tree"] []) (hk : PySem.W.keepIn K (.ref f) = true) (zx : mg "max" = none) : ∀ d : Nat, FnOk P w K mg base CX0 (1 + d) f fd ["_law_tree"] (spLevels K d)
  | 0 => F.ok (k := 0) scLevelsL (fun vs H Q E h => by
      obtain ⟨v, t, rfl, _⟩ := h
      rfl) fun cdv A outer s H vs Q E hr h => by
      obtain ⟨v, t, _, _, hl, _⟩ := h
      have := t.lev_pos
      omega
  | d + 1 => by
    have IH := ok_levelsL F hm hb hk zx d
    have CT : Cal P w K mg base (1 + d) "_law_levels" ["_law_tree"] (spLevels K d) := ⟨f, fd, hm, hb, hk, IH⟩
    refine F.ok (k := 1 + d) scLevelsL (fun vs H Q E h => ?_) (fun cdv A outer s H vs Q E hr h => ?_)
    · obtain ⟨v, t, rfl, _⟩ := h
      rfl
    · obtain ⟨v, t, rfl, rt, hl, ⟨B, n, ok, it⟩, kQ⟩ := h
      have nd := scLevelsL.nd
      have hz := sizeLine_eq
      refine ⟨_, pss_one (ps_ret (pe_op op_add pe_int (pe_callB (cr_max rfl) (by rfl) zx (by decide +kernel) (pa_cons (pe_op op_cat (pe_lst (pa_cons pe_int pa_nil)) (pe_lc (own := [("_law_part", 1)]) (g := gName 1) (tt := tTest (tOp rNotN (tVar 1) (tC .non))) (te := tCall (spLevels K d) [] E0 (tCons (tVar 1) tNil)) rfl nd (pi_tup (pe_ix ix_tup (pv 0) pe_int (fun _ _ => rfl)))
        (blkOk_by (own := [("_law_part", 1)]) (N := ["_law_tree", "_law_part"]) (sc := defScope sLevelsL) (by decide +kernel)) (fun _ _ _ _ _ => pg_name (i := 1) nd rfl (Or.inl rfl)) (fun _ _ _ _ _ => pts_one (pt_cmpR (r := rNotN) op_notN (pv 1) pe_non (nomark _))) (fun _ _ _ _ _ => pe_cal CT hr rfl (pa_cons (pv 1) pa_nil)))) pa_nil)))), ?_⟩
      cases it with
      | @mk k i g ps hkk hg hmb hps =>
        obtain ⟨ta, pa, pvs, rfl, hta, hpa, rps⟩ := Tr.rp rt
        have okg := (ok.kinds k hkk).gs g (List.mem_of_getElem? hg)
        have l3 := okg.len
        have lol := isTrs_len hps
        have lps : pvs.length = ps.ol.length := by rw [rps.len, List.length_map]
        have hl' : ps.lev ≤ d := by
          have : 1 + ps.lev ≤ d + 1 := hl
          omega
        refine ⟨by show 1 ≤ sizeLine; decide, fun Z nZ => ?_⟩
        have s1 : Same H (upd H Z (.lst [.int 0])) := same_new (Same.refl H) nZ
        have h1 : upd H Z (.lst [.int 0]) Z = some (.lst [.int 0]) := upd_same
        generalize upd H Z (.lst [.int 0]) = H1 at s1 h1
        refine ⟨_, rfl, ta, _, 2, .ref pa, rfl, rfl, SqT.of (s1 _ _ hta), atI_nat (j := 2) rfl, pa, rfl, ⟨_, SqT.of (s1 _ _ hpa)⟩, fun Dx nD => ?_⟩
        refine lc_filt (K := K) (walk_tup (xs := pvs)) ps.ol Option.isSome (fun o => D.int (levO o : Nat)) lps.symm (fun _ => rfl) nD (by omega) (fun H' s => SqT.of (s _ _ (s1 _ _ hpa))) ?_ ?_
        · rintro j o x H4 H5 R Q' hj ho s4 ⟨rfl, hx⟩ kR kQ'
          obtain ⟨o', ho', rx⟩ := at_of rps hx
          have eo : o = o' := by rw [ho] at ho'; exact Option.some.inj ho'
          subst eo
          have rx5 := rx.same (s1.trans s4)
          cases o with
          | none =>
            have ex : x = .non := by cases rx5; rfl
            subst ex
            exact ⟨rfl, _, rfl, rfl, _, rfl, iteF (kR _ (Same.refl _) rfl)⟩
          | some T =>
            obtain ⟨ta', _, _, ex, _⟩ : ∃ ta' n' i', x = .ref ta' ∧ n' = (0 : Nat) ∧ i' = (0 : Nat) := by
              cases T with
              | mk n' i' ps' =>
                obtain ⟨ta', _, _, e, _⟩ := Tr.rp rx5
                exact ⟨ta', 0, 0, e, rfl, rfl⟩
            subst ex
            have jg : j < g.length := by
              have := (List.getElem?_eq_some_iff.mp ho).1
              omega
            have iT : ∃ n', IsTr B n' T ∧ T.lev ≤ ps.lev := by
              cases hn : g[j]? with
              | none =>
                have := List.getElem?_eq_none_iff.mp hn
                omega
              | some nn =>
                cases nn with
                | row r t m =>
                  rw [isTrs_row hps hn] at ho
                  cases ho
                | knd n' a t m =>
                  obtain ⟨U, hU, iU, lU⟩ := isTrs_kid hps hn
                  rw [ho] at hU
                  cases hU
                  exact ⟨n', iU, lU⟩
            obtain ⟨n', iT, lT⟩ := iT
            refine ⟨rfl, _, rfl, rfl, _, rfl, iteT ⟨_, rfl, _, T, rfl, rx5, Nat.le_trans lT hl', ⟨B, n', ok, iT⟩, fun H6 s6 => kQ' _ H6 s6 rfl (.int _)⟩⟩
        · intro H4 ys s4 hD r
          have ez : ys = (((ps.ol.filter Option.isSome).map levO).map fun x : Nat => (x : Int)).map V.int := by
            refine ints_of (K := K) (H := H4) ?_
            rw [List.map_map, List.map_map]
            exact r
          subst ez
          have lf := List.length_filter_le Option.isSome ps.ol
          refine ⟨Z, Dx, _, _, rfl, rfl, s4 _ _ h1, hD, by rw [List.length_map, List.length_map, List.length_map]; show 1 + _ ≤ _; omega, fun u nu => ?_⟩
          have s5 := same_new (o := .lst ([V.int 0] ++ (((ps.ol.filter Option.isSome).map levO).map fun x : Nat => (x : Int)).map V.int)) (Same.refl H4) nu
          refine ⟨u, (0 : Int) :: ((ps.ol.filter Option.isSome).map levO).map fun x : Nat => (x : Int), rfl, SqL.of upd_same, by rw [List.length_cons]; omega, fun mx hmx hle => ?_⟩
          have e := mx_is hmx hle
          rw [lev_ol] at e
          subst e
          refine ⟨1, (ps.lev : Nat), rfl, rfl, ?_⟩
          have q := kQ _ ((s1.trans s4).trans s5)
          have e1 : ((Tr.mk k.name i ps).lev : Int) = 1 + (ps.lev : Nat) := by show ((1 + ps.lev : Nat) : Int) = _; omega
          rw [e1] at q
          exact q
end
end Gy

namespace Gy
open PySem L2 PySem.Spec PyProof.Rows
/-! ### rows_in, is_clean_tree, is_old_tree -/
def rowZ (B : Bk) (n : Nd) : Option Tr → List Str
  | none => [n.nm]
  | some t => t.rows B
def restR (B : Bk) : List Nd → List (Option Tr) → List Str
  | [], _ => []
  | _ :: _, [] => []
  | n :: g, o :: os => rowZ B n o ++ restR B g os
def wtO : Option Tr → Nat
  | none => 1
  | some t => 3 * t.size
def szO : Option Tr → Nat
  | none => 0
  | some t => t.size
def restW (os : List (Option Tr)) : Nat := (os.map wtO).sum
def restS (os : List (Option Tr)) : Nat := (os.map szO).sum
def szs (ts : List Tr) : Nat := (ts.map Tr.size).sum
theorem rows_rest {B : Bk} : ∀ {g : List Nd} {ps : Trs}, IsTrs B g ps → ps.rows B g = restR B g ps.ol
  | _, _, .nil => rfl
  | _, _, @IsTrs.row _ r t m g ps h => by
    show [r] ++ ps.rows B g = [r] ++ restR B g ps.ol
    rw [rows_rest h]
  | _, _, @IsTrs.kid _ n a t m g T ps h h' => by
    show T.rows B ++ ps.rows B g = T.rows B ++ restR B g ps.ol
    rw [rows_rest h']
theorem restS_size : ∀ ps : Trs, restS ps.ol = ps.size
  | .nil => rfl
  | .row r => by
    show 0 + restS r.ol = r.size
    rw [restS_size r, Nat.zero_add]
  | .kid t r => by
    show t.size + restS r.ol = t.size + r.size
    rw [restS_size r]
theorem restW_le : ∀ os : List (Option Tr), restW os ≤ os.length + 3 * restS os
  | [] => Nat.le_refl _
  | none :: os => by
    have := restW_le os
    show 1 + restW os ≤ (os.length + 1) + 3 * (0 + restS os)
    omega
  | some t :: os => by
    have := restW_le os
    show 3 * t.size + restW os ≤ (os.length + 1) + 3 * (t.size + restS os)
    omega
mutual
theorem Tr.size_nodes : ∀ t : Tr, t.size ≤ t.d.nodes
  | .mk n i ps => by
    have := Trs.size_nodes ps
    show 1 + ps.size ≤ D.nodes (.tup [.str n, .int i, .tup ps.ds])
    simp only [D.nodes, D.nodesAll]
    omega
theorem Trs.size_nodes : ∀ ps : Trs, ps.size ≤ D.nodesAll ps.ds
  | .nil => Nat.le_refl _
  | .row r => by
    have := Trs.size_nodes r
    show r.size ≤ D.nodes .non + D.nodesAll r.ds
    omega
  | .kid t r => by
    have := Trs.size_nodes r
    have := Tr.size_nodes t
    show t.size + r.size ≤ t.d.nodes + D.nodesAll r.ds
    omega
end
theorem szs_snoc (ts : List Tr) (t : Tr) : szs (ts ++ [t]) = szs ts + t.size := by
  unfold szs
  rw [List.map_append, List.sum_append]
  show _ + (t.size + 0) = _
  rw [Nat.add_zero]
theorem Tr.size_pos : ∀ t : Tr, 1 ≤ t.size
  | .mk n i ps => by show 1 ≤ 1 + ps.size; omega
theorem trs_flat : ∀ ts : List Tr, D.flatAll (ts.map Tr.d) = true := flat_map Tr.flat
/-- what is waiting, is fine -/
theorem wait_fine {B : Bk} (ok : BOk B) : ∀ {ts : List Tr}, (∀ x ∈ ts, ∃ n, IsTr B n x ∧ x.lev ≤ 18) → ∃ N, FineL (ts.map Tr.d) N 36
  | [], _ => ⟨0, FineL.nil.mono (Nat.le_refl _) (by omega)⟩
  | t :: ts, h => by
    obtain ⟨N, q⟩ := wait_fine ok fun x hx => h x (List.mem_cons_of_mem _ hx)
    obtain ⟨n, it, hl⟩ := h t List.mem_cons_self
    obtain ⟨M, q'⟩ := it.fine ok
    exact ⟨M + N, (FineL.cons (q'.mono (Nat.le_refl _) (by omega : 2 * t.lev ≤ 36)) q).mono (Nat.le_refl _) (by omega)⟩
abbrev sRowsIn : Stmt := top 26
def spRowsIn (K : PySem.W.Frag) : Sp := fun vs H Q _ => ∃ (p : Addr) (v : V) (B : Bk) (t : Tr), vs = [.ref p, v] ∧ Rp K H (.ref p) B.d ∧ BOk B ∧ Rp K H v t.d ∧ (∃ n, IsTr B n t) ∧ t.lev ≤ 18 ∧ t.size ≤ 30000 ∧
  ∀ (L : Addr) (H' : Hp) (fs : List Str), Same H H' → H L = none → H' L = some (.lst (fs.map V.str)) → (∀ r, r ∈ fs ↔ r ∈ t.rows B) → fs.length ≤ 90000 → Q (.ref L) H'
abbrev sIsClean : Stmt := top 27
abbrev sIsOld : Stmt := top 28
def hasS (st l : List Str) : Bool := l.any fun r => decide (r ∈ st)
def spIsSort (K : PySem.W.Frag) (neg : Bool) : Sp := fun vs H Q _ => ∃ (p S : Addr) (v : V) (B : Bk) (st : List Str) (n : Str) (t : Tr), vs = [.ref p, .ref S, .str n, v] ∧ Rp K H (.ref p) B.d ∧ BOk B ∧ SqQ H S (st.map V.str) ∧ Rp K H v t.d ∧ IsTr B n t ∧ t.lev ≤ 18 ∧ t.size ≤ 30000 ∧ ∀ H', Same H H' → Q (.bl (if neg then !hasS st (t.rows B) else hasS st (t.rows B))) H'
section
variable {P : Program} {w : World} {K : PySem.W.Frag} {mg : Str → Option Value} {base : Heap}
theorem scRowsIn : FnScope ["rulebook", "tree", "found", "waiting", "name", "index", "parts", "need", "part"] ["rulebook", "tree"] (defScope sRowsIn) := ⟨rfl, rfl, rfl, by decide +kernel, rfl, by decide +kernel, by decide +kernel⟩
theorem ok_rowsIn {f : Addr} {fd : FuncData} {tk : Tok} (F : Fun K "rows_in" "rows_in" sRowsIn f fd) (gR : mg "ROW" = some (.str "row" tk)) (zz : mg "zip" = none) (CG : Cal P w K mg base 4 "grounds_of" ["rulebook", "name"] (spGrounds K)) : FnOk P w K mg base CX0 5 f fd ["rulebook", "tree"] (spRowsIn K) := by
  refine F.ok scRowsIn (fun vs H Q E h => ?_) (fun cdv A outer s H vs Q E hr h => ?_)
  · obtain ⟨p, v, B, t, rfl, _⟩ := h
    rfl
  · obtain ⟨p, v, B, t, rfl, rp, ok, rt, ⟨n0, it⟩, hl, hsz, kQ⟩ := h
    have nd := scRowsIn.nd
    have hu := hr.units
    have hz := sizeLine_eq
    refine ⟨_, pss_cons (ps_par (i := 2) (j := 3) (by rfl) nd rfl rfl (by decide) rfl rfl (pa_cons (pe_lst pa_nil) (pa_cons (pe_lst (pa_cons (pv 1) pa_nil)) pa_nil)) (by rfl))
      (pss_cons (ps_while PassesOwn.never (pt_cmpR (op_neD hu) (pv 3) (pe_lst pa_nil) (nomark _))
        (pss_cons (ps_asg (pe_bm0 PySem.F.plainAttrs_list PySem.F.slot_list_pop PySem.F.type_list_pop mt_pop (pv 3)) (pg_tup rfl (pgs_cons (pg_name (i := 4) nd rfl (Or.inl rfl)) (pgs_cons (pg_name (i := 5) nd rfl (Or.inl rfl)) (pgs_cons (pg_name (i := 6) nd rfl (Or.inl rfl)) pgs_nil)))))
        (pss_one (ps_for PassesOwn.never rfl (RZ.pi_zipA (by rfl) zz (pa_cons (pe_ix ix_tup (pe_cal CG hr rfl (pa_cons (pv 0) (pa_cons (pv 4) pa_nil))) (pv 5) (fun _ _ => rfl)) (pa_cons (pv 6) pa_nil))) (pg_tup rfl (pgs_cons (pg_name (i := 7) nd rfl (Or.inl rfl)) (pgs_cons (pg_name (i := 8) nd rfl (Or.inl rfl)) pgs_nil)))
          (pss_one (ps_if (pt_cmpR op_eq (pe_ix ix_tup (pv 7) pe_int (fun _ _ => rfl)) (pe_glob (v := .str "row") rfl gR ⟨_, rfl⟩) (nomark _))
            (pss_one (ps_expr (by exact (pe_bm PySem.F.plainAttrs_list PySem.F.slot_list_append PySem.F.type_list_append mt_append (pv 2) (pa_cons (pe_ix ix_tup (pv 7) pe_int (fun _ _ => rfl)) pa_nil)))))
            (pss_one (ps_expr (by exact (pe_bm PySem.F.plainAttrs_list PySem.F.slot_list_append PySem.F.type_list_append mt_append (pv 3) (pa_cons (pv 8) pa_nil))))))))))) 
      (pss_one (ps_ret (pv 2)))), ?_⟩
    refine ⟨Nat.zero_le _, fun L nL => ⟨_, rfl, by show 1 ≤ sizeLine; decide, fun W nW => ⟨_, _, rfl, ?_⟩⟩⟩
    have LW : L ≠ W := fun z => by rw [z, upd_same] at nW; cases nW
    have nWH : H W = none := by rw [upd_ne (Ne.symm LW)] at nW; exact nW
    have s1 : Same H (upd (upd H L (.lst [])) W (.lst [v])) := same_put (same_new (Same.refl H) nL) nWH
    have h1L : upd (upd H L (.lst [])) W (.lst [v]) L = some (.lst []) := by rw [upd_ne LW]; exact upd_same
    have h1W : upd (upd H L (.lst [])) W (.lst [v]) W = some (.lst [v]) := upd_same
    generalize upd (upd H L (.lst [])) W (.lst [v]) = H1 at s1 h1L h1W
    have rp1 := rp.same s1
    have rt1 := rt.same s1
    try dsimp only
    show tSeq _ _ _ [some (.ref p), some v, some (.ref L), some (.ref W), none, none, none, none, none] H1
    refine ⟨fun m σ' H' => (∃ x4 x5 x6 x7 x8, σ' = [some (.ref p), some v, some (.ref L), some (.ref W), x4, x5, x6, x7, x8]) ∧ Ext2 L W H1 H' ∧ ∃ (fs : List Str) (ts : List Tr) (ws : List V), H' L = some (.lst (fs.map V.str)) ∧ H' W = some (.lst ws) ∧ RpAll K H' ws (ts.map Tr.d) ∧ (∀ x ∈ ts, ∃ n, IsTr B n x ∧ x.lev ≤ 18) ∧ (∀ r, r ∈ t.rows B ↔ r ∈ fs ∨ ∃ x ∈ ts, r ∈ x.rows B) ∧ fs.length + 3 * szs ts ≤ 3 * t.size ∧ m = szs ts,
      ⟨_, ⟨_, _, _, _, _, rfl⟩, fun _ _ _ _ h => h, [], [t], [v], h1L, h1W, .cons rt1 .nil, (fun x hx => by rw [List.mem_singleton.mp hx]; exact ⟨n0, it, hl⟩), (fun r => ⟨fun h => .inr ⟨t, List.mem_singleton.mpr rfl, h⟩, fun h => h.elim (fun z => by cases z) fun ⟨x, hx, hr⟩ => by rw [List.mem_singleton.mp hx] at hr; exact hr⟩), by show 0 + 3 * (t.size + 0) ≤ 3 * t.size; omega, rfl⟩, ?_⟩
    rintro m σ' H5 ⟨⟨x4, x5, x6, x7, x8, rfl⟩, e5, fs, ts, ws, hL5, hW5, rws, hts, hrows, hlen, rfl⟩
    have TT : ∀ {Ha Hb : Hp} {la lb : List V}, Ha L = some (.lst la) → Ha W = some (.lst lb) → Ext2 L W Ha Hb → Tups Ha Hb := fun ha hb e a xs h => e a _ (fun z => by rw [z, ha] at h; cases h) (fun z => by rw [z, hb] at h; cases h) h
    have T15 := TT h1L h1W e5
    have s05 := Ext2.same s1 e5 nL nWH
    refine ⟨_, rfl, Nat.zero_le _, fun E0 nE0 => ?_⟩
    have s6 : Same H5 (upd H5 E0 (.lst [])) := same_new (Same.refl H5) nE0
    have h6 : upd H5 E0 (.lst []) E0 = some (.lst []) := upd_same
    generalize upd H5 E0 (.lst []) = H6 at s6 h6
    have hL6 := s6 _ _ hL5
    have hW6 := s6 _ _ hW5
    have rws6 := RpAll.same s6 rws
    obtain ⟨N, fw⟩ := wait_fine ok hts
    obtain ⟨d1, d2, d3⟩ := empty_dp hW6 rws6 fw (by decide)
    refine ⟨_, .list [], d1, .lst (SqL.of h6) .nil, d2, rfl, _, rfl, ?_⟩
    rw [d3]
    have lws : ws.length = ts.length := by rw [rws.len, List.length_map]
    rcases List.eq_nil_or_concat ts with rfl | ⟨us, u, rfl⟩
    · refine iteF ?_
      refine ⟨_, rfl, kQ L H6 fs (s05.trans s6) nL hL6 (fun r => ⟨fun h => (hrows r).mpr (.inl h), fun h => ((hrows r).mp h).elim id fun ⟨x, hx, _⟩ => by cases hx⟩) ?_⟩
      have : szs ([] : List Tr) = 0 := rfl
      omega
    · rw [List.concat_eq_append] at *
      have emp : ((us ++ [u]).map Tr.d).isEmpty = false := by
        rw [List.map_append]
        cases us <;> rfl
      rw [emp]
      have lw : ws.length = us.length + 1 := by rw [lws, List.length_append]; rfl
      obtain ⟨y, hy, ry⟩ := at_to (f := Tr.d) rws6 (i := us.length) (x := u) (by rw [List.getElem?_append_right (Nat.le_refl _), Nat.sub_self]; rfl)
      have rdrop : RpAll K H6 ws.dropLast (us.map Tr.d) := by
        have q := RpAll.take us.length rws6
        rw [← List.map_take, List.take_append_of_le_length (Nat.le_refl _), List.take_length] at q
        have e : ws.dropLast = ws.take us.length := by rw [List.dropLast_eq_take, lw]; rfl
        rw [e]
        exact q
      have hsz6 := szs_snoc us u
      cases u with
      | mk un ui ups =>
        obtain ⟨ta, pa, pvs, rfl, hta, hpa, rps⟩ := Tr.rp ry
        obtain ⟨nu, iu, lu⟩ := hts (.mk un ui ups) (List.mem_append_right _ (List.mem_singleton.mpr rfl))
        refine iteT ⟨fun σ' H' => (∃ x4 x5 x6 x7 x8, σ' = [some (.ref p), some v, some (.ref L), some (.ref W), x4, x5, x6, x7, x8]) ∧ Ext2 L W H1 H' ∧ ∃ (fs : List Str) (ts : List Tr) (ws : List V), H' L = some (.lst (fs.map V.str)) ∧ H' W = some (.lst ws) ∧ RpAll K H' ws (ts.map Tr.d) ∧ (∀ x ∈ ts, ∃ n, IsTr B n x ∧ x.lev ≤ 18) ∧ (∀ r, r ∈ t.rows B ↔ r ∈ fs ∨ ∃ x ∈ ts, r ∈ x.rows B) ∧ fs.length + 3 * szs ts ≤ 3 * t.size ∧ szs ts < szs (us ++ [.mk un ui ups]),
          fun σ' H' ⟨h1, h2, fs', ts', ws', h3, h4, h5, h6, h7, h8, h9⟩ => ⟨szs ts', h9, h1, h2, fs', ts', ws', h3, h4, h5, h6, h7, h8, rfl⟩, ?_⟩
        refine ⟨_, rfl, .inl ⟨rfl, _, SqL.of hW6⟩, W, ws, .ref ta, rfl, rfl, hW6, by rw [lw]; exact hy, ?_⟩
        have T67 : Tups H6 (upd H6 W (.lst ws.dropLast)) := Tups.put hW6
        have h7W : upd H6 W (.lst ws.dropLast) W = some (.lst ws.dropLast) := upd_same
        have h7L : upd H6 W (.lst ws.dropLast) L = some (.lst (fs.map V.str)) := by rw [upd_ne LW]; exact hL6
        have e7 : Ext2 L W H1 (upd H6 W (.lst ws.dropLast)) := fun x o n1 n2 h => by
          rw [upd_ne n2]
          exact s6 _ _ (e5 x o n1 n2 h)
        generalize upd H6 W (.lst ws.dropLast) = H7 at T67 h7W h7L e7
        cases iu with
        | @mk k i g ups' hkk hg hmb hps =>
          have T17 := TT h1L h1W e7
          have rp7 := rp1.tups T17 (bk_flat B)
          have okg := (ok.kinds k hkk).gs g (List.mem_of_getElem? hg)
          have l3 := okg.len
          have lol := isTrs_len hps
          have hta7 := T67 _ _ hta
          have hpa7 := T67 _ _ hpa
          refine ⟨ta, _, rfl, SqT.of hta7, rfl, _, _, rfl, _, _, rfl, _, _, rfl, rfl, ?_⟩
          try dsimp only
          show tFor _ _ _ _ [some (.ref p), some v, some (.ref L), some (.ref W), some (.str k.name), some (.int (ui : Nat)), some (.ref pa), x7, x8] H7
          refine ⟨_, rfl, _, rfl, p, B, k, rfl, rp7, ok, hkk, fun gt gvs hgt rg => ?_⟩
          obtain ⟨gv, hgv, rgv⟩ := at_to rg hg
          obtain ⟨ga, nvs, rfl, hga, rn⟩ := gd_rp rgv
          have ln : nvs.length = g.length := by rw [rn.len, List.length_map]
          have lps : pvs.length = g.length := by rw [rps.len, List.length_map, lol]
          have rps7 := RpAll.tups T67 rps (flat_map optD_flat _)
          refine ⟨_, rfl, gt, _, ui, .ref ga, rfl, rfl, SqT.of hgt, atI_nat hgv, _, rfl, ga, pa, nvs, pvs, rfl, .inr ⟨SqT.of hga, SqT.of hpa7, RZ.for_zipT (xs := nvs) (ys := pvs) (by rw [ln, lps]) (fun j σ' H' => (∃ x7 x8, σ' = [some (.ref p), some v, some (.ref L), some (.ref W), some (.str k.name), some (.int (ui : Nat)), some (.ref pa), x7, x8]) ∧ Ext2 L W H1 H' ∧ Tups H7 H' ∧ ∃ (fs : List Str) (ts : List Tr) (ws : List V), H' L = some (.lst (fs.map V.str)) ∧ H' W = some (.lst ws) ∧ RpAll K H' ws (ts.map Tr.d) ∧ (∀ x ∈ ts, ∃ n, IsTr B n x ∧ x.lev ≤ 18) ∧ (∀ r, r ∈ t.rows B ↔ r ∈ fs ∨ (∃ x ∈ ts, r ∈ x.rows B) ∨ r ∈ restR B (g.drop j) (ups.ol.drop j)) ∧ fs.length + 3 * szs ts + restW (ups.ol.drop j) ≤ 3 * t.size ∧ szs ts + restS (ups.ol.drop j) ≤ szs us + ups.size)
            ⟨⟨_, _, rfl⟩, e7, Tups.refl H7, fs, us, ws.dropLast, h7L, h7W, RpAll.tups T67 rdrop (trs_flat _), fun x hx => hts x (List.mem_append_left _ hx), fun r => ?_, ?_, ?_⟩ (fun j σ' H' z => ⟨SqT.of (z.2.2.1 _ _ hga), SqT.of (z.2.2.1 _ _ hpa7)⟩) ?_ ?_⟩⟩
          · rw [hrows r, List.drop_zero, List.drop_zero, ← rows_rest hps, ← gAt_of ok hkk hg]
            constructor
            · rintro (h | ⟨x, hx, hr'⟩)
              · exact .inl h
              · rcases List.mem_append.mp hx with hx | hx
                · exact .inr (.inl ⟨x, hx, hr'⟩)
                · rw [List.mem_singleton.mp hx] at hr'
                  exact .inr (.inr hr')
            · rintro (h | ⟨x, hx, hr'⟩ | h)
              · exact .inl h
              · exact .inr ⟨x, List.mem_append_left _ hx, hr'⟩
              · exact .inr ⟨_, List.mem_append_right _ (List.mem_singleton.mpr rfl), h⟩
          · rw [List.drop_zero]
            have := restW_le ups.ol
            have := restS_size ups
            have es : (Tr.mk k.name ui ups).size = 1 + ups.size := rfl
            omega
          · rw [List.drop_zero, restS_size]
            exact Nat.le_refl _
          · rintro j x y T σ' H' hx hy' ⟨⟨x7, x8, rfl⟩, e8, T8, fs8, ts8, ws8, hL8, hW8, rws8, hts8, hrows8, hlen8, hszs8⟩ nT
            obtain ⟨nn, hn, rx⟩ := at_of rn hx
            obtain ⟨o, ho, ryo⟩ := at_of rps7 hy'
            have s9 : Same H' (upd H' T (.tup [x, y])) := same_new (Same.refl H') nT
            have hT : upd H' T (.tup [x, y]) T = some (.tup [x, y]) := upd_same
            generalize upd H' T (.tup [x, y]) = H9 at s9 hT
            have T79 := T8.trans (Tups.same s9)
            have rx9 := rx.tups T79 (nd_flat nn)
            have ry9 := ryo.tups T79 (optD_flat o)
            have hL9 := s9 _ _ hL8
            have hW9 := s9 _ _ hW8
            have rws9 := RpAll.same s9 rws8
            have e9 : Ext2 L W H1 H9 := fun x o n1 n2 h => s9 _ _ (e8 x o n1 n2 h)
            have dg : g.drop j = nn :: g.drop (j + 1) := (List.drop_eq_getElem_cons (List.getElem?_eq_some_iff.mp hn).1).trans (by rw [(List.getElem?_eq_some_iff.mp hn).2])
            have dol : ups.ol.drop j = o :: ups.ol.drop (j + 1) := (List.drop_eq_getElem_cons (List.getElem?_eq_some_iff.mp ho).1).trans (by rw [(List.getElem?_eq_some_iff.mp ho).2])
            rw [dg, dol] at hrows8
            rw [dol] at hlen8 hszs8
            refine ⟨T, _, rfl, SqT.of hT, rfl, _, _, rfl, _, _, rfl, rfl, ?_⟩
            try dsimp only
            show tIfS _ _ _ _ [some (.ref p), some v, some (.ref L), some (.ref W), some (.str k.name), some (.int (ui : Nat)), some (.ref pa), some x, some y] H9
            obtain ⟨uu, rfl, huu⟩ := nd_rp rx9
            cases nn with
            | row r tt mm =>
              have eo := isTrs_row hps hn
              rw [ho] at eo
              cases eo
              refine ⟨_, rfl, uu, _, 0, .str "row", rfl, rfl, SqT.of huu, atI_nat (j := 0) rfl, rfl, _, rfl, ?_⟩
              have z : decide (V.str "row" = V.str "row") = true := decide_eq_true rfl
              rw [z]
              have hl8 : fs8.length + 3 * szs ts8 + (1 + restW (ups.ol.drop (j + 1))) ≤ 3 * t.size := hlen8
              refine iteT ⟨_, rfl, .inl ⟨rfl, _, SqL.of hL9⟩, _, rfl, uu, _, 1, .str r, rfl, rfl, SqT.of huu, atI_nat (j := 1) rfl, L, _, .str r, rfl, rfl, hL9, by rw [List.length_map]; omega, ?_⟩
              have T10 : Tups H9 (upd H9 L (.lst (fs8.map V.str ++ [.str r]))) := Tups.put hL9
              refine ⟨⟨_, _, rfl⟩, fun x o n1 n2 h => by rw [upd_ne n1]; exact e9 x o n1 n2 h, T79.trans T10, fs8 ++ [r], ts8, ws8, by rw [upd_same, List.map_append]; rfl, by rw [upd_ne (Ne.symm LW)]; exact hW9, RpAll.tups T10 rws9 (trs_flat _), hts8, fun r' => ?_, ?_, ?_⟩
              · rw [hrows8 r']
                show (_ ∨ _ ∨ r' ∈ [r] ++ restR B (g.drop (j + 1)) (ups.ol.drop (j + 1))) ↔ _
                rw [List.mem_append, List.mem_append]
                constructor
                · rintro (h | h | h | h)
                  · exact .inl (.inl h)
                  · exact .inr (.inl h)
                  · exact .inl (.inr h)
                  · exact .inr (.inr h)
                · rintro ((h | h) | h | h)
                  · exact .inl h
                  · exact .inr (.inr (.inl h))
                  · exact .inr (.inl h)
                  · exact .inr (.inr (.inr h))
              · rw [List.length_append]
                show fs8.length + 1 + _ + _ ≤ _
                omega
              · have : szs ts8 + (0 + restS (ups.ol.drop (j + 1))) ≤ szs us + ups.size := hszs8
                omega
            | knd n' a tt mm =>
              obtain ⟨U, hU, iU, lU⟩ := isTrs_kid hps hn
              rw [ho] at hU
              cases hU
              refine ⟨_, rfl, uu, _, 0, .str "kind", rfl, rfl, SqT.of huu, atI_nat (j := 0) rfl, rfl, _, rfl, ?_⟩
              have z : decide (V.str "kind" = V.str "row") = false := by decide +kernel
              rw [z]
              have hl8 : fs8.length + 3 * szs ts8 + (3 * U.size + restW (ups.ol.drop (j + 1))) ≤ 3 * t.size := hlen8
              have hs8 : szs ts8 + (U.size + restS (ups.ol.drop (j + 1))) ≤ szs us + ups.size := hszs8
              have lw8 : ws8.length = ts8.length := by rw [rws8.len, List.length_map]
              have lts : ∀ l : List Tr, l.length ≤ szs l := fun l => by
                induction l with
                | nil => exact Nat.le_refl _
                | cons a l ih =>
                  have := a.size_pos
                  show l.length + 1 ≤ a.size + szs l
                  omega
              have := lts ts8
              refine iteF ⟨_, rfl, .inl ⟨rfl, _, SqL.of hW9⟩, _, rfl, W, _, y, rfl, rfl, hW9, by omega, ?_⟩
              have T10 : Tups H9 (upd H9 W (.lst (ws8 ++ [y]))) := Tups.put hW9
              have es := szs_snoc ts8 U
              refine ⟨⟨_, _, rfl⟩, fun x o n1 n2 h => by rw [upd_ne n2]; exact e9 x o n1 n2 h, T79.trans T10, fs8, ts8 ++ [U], ws8 ++ [y], by rw [upd_ne LW]; exact hL9, upd_same, ?_, fun x hx => ?_, fun r' => ?_, by omega, by omega⟩
              · rw [List.map_append]
                exact (RpAll.tups T10 rws9 (trs_flat _)).append (.cons (ry9.tups T10 (optD_flat (some U))) .nil)
              · rcases List.mem_append.mp hx with hx | hx
                · exact hts8 x hx
                · rw [List.mem_singleton.mp hx]
                  have : 1 + ups.lev ≤ 18 := lu
                  exact ⟨n', iU, by omega⟩
              · rw [hrows8 r']
                show (_ ∨ _ ∨ r' ∈ U.rows B ++ restR B (g.drop (j + 1)) (ups.ol.drop (j + 1))) ↔ _
                rw [List.mem_append]
                constructor
                · rintro (h | ⟨x, hx, h⟩ | h | h)
                  · exact .inl h
                  · exact .inr (.inl ⟨x, List.mem_append_left _ hx, h⟩)
                  · exact .inr (.inl ⟨U, List.mem_append_right _ (List.mem_singleton.mpr rfl), h⟩)
                  · exact .inr (.inr h)
                · rintro (h | ⟨x, hx, h⟩ | h)
                  · exact .inl h
                  · rcases List.mem_append.mp hx with hx | hx
                    · exact .inr (.inl ⟨x, hx, h⟩)
                    · rw [List.mem_singleton.mp hx] at h
                      exact .inr (.inr (.inl h))
                  · exact .inr (.inr (.inr h))
          · rintro σ' H' ⟨⟨x7, x8, rfl⟩, e8, T8, fs8, ts8, ws8, hL8, hW8, rws8, hts8, hrows8, hlen8, hszs8⟩
            have d1 : g.drop nvs.length = [] := by rw [ln]; exact List.drop_length
            have d2 : ups.ol.drop nvs.length = [] := by rw [ln, ← lol]; exact List.drop_length
            rw [d1, d2] at hrows8
            rw [d2] at hlen8 hszs8
            have h0 : restW ([] : List (Option Tr)) = 0 := rfl
            have h00 : restS ([] : List (Option Tr)) = 0 := rfl
            have es : (Tr.mk k.name ui ups).size = 1 + ups.size := rfl
            refine ⟨⟨_, _, _, _, _, rfl⟩, e8, fs8, ts8, ws8, hL8, hW8, rws8, hts8, fun r => ?_, by omega, by omega⟩
            rw [hrows8 r]
            exact ⟨fun h => h.elim .inl fun h => h.elim .inr fun h => (by cases h), fun h => h.elim .inl fun h => .inr (.inl h)⟩
theorem scIsClean : FnScope ["rulebook", "struck", "name", "thing", "row"] ["rulebook", "struck", "name", "thing"] (defScope sIsClean) := ⟨rfl, rfl, rfl, by decide +kernel, rfl, by decide +kernel, by decide +kernel⟩
theorem ok_isClean {f : Addr} {fd : FuncData} (F : Fun K "is_clean_tree" "is_clean_tree" sIsClean f fd) (za : mg "any" = none) (CT : Cal P w K mg base 28 "is_tree" ["rulebook", "name", "thing"] (spIsTree K 18)) (CR : Cal P w K mg base 5 "rows_in" ["rulebook", "tree"] (spRowsIn K)) : FnOk P w K mg base CX0 29 f fd ["rulebook", "struck", "name", "thing"] (spIsSort K true) := by
  refine F.ok scIsClean (fun vs H Q E h => ?_) (fun cdv A outer s H vs Q E hr h => ?_)
  · obtain ⟨p, S, v, B, st, n, t, rfl, _⟩ := h
    rfl
  · obtain ⟨p, S, v, B, st, n, t, rfl, rp, ok, hS, rt, it, hl, hsz, kQ⟩ := h
    have nd := scIsClean.nd
    have hr5 := hr.mono (by decide : 5 ≤ 28)
    refine ⟨_, pss_one (ps_ret (pe_and (pe_cal CT hr rfl (pa_cons (pv 0) (pa_cons (pv 2) (pa_cons (pv 3) pa_nil)))) (pe_one (pe_not (pe_callB (cr_any rfl) (by rfl) za PyProof.Rows.boot_any (pa_cons (pe_lc (own := [("row", 4)]) (g := gName 4) (tt := tYes) (te := tOp (rIn K false) (tVar 4) (tVar 1)) rfl nd (pi_list (pe_cal CR hr5 rfl (pa_cons (pv 0) (pa_cons (pv 3) pa_nil))))
      (blkOk_by (own := [("row", 4)]) (N := ["rulebook", "struck", "name", "thing", "row"]) (sc := defScope sIsClean) (by decide +kernel)) (fun _ _ _ _ _ => pg_name (i := 4) nd rfl (Or.inl rfl)) (fun _ _ _ _ _ => pts_nil) (fun _ _ _ _ _ => pe_cmpR op_in_seq (pv 4) (pv 1) (by rfl))) pa_nil)))))), ?_⟩
    refine ⟨_, rfl, _, rfl, _, rfl, p, v, B, n, t, rfl, rp, ok, rt, it, hl, fun H1 s1 => ⟨true, rfl, iteT ?_⟩⟩
    refine ⟨_, rfl, _, rfl, p, v, B, t, rfl, rp.same s1, ok, rt.same s1, ⟨n, it⟩, hl, hsz, fun L H2 fs s2 nL hL hfs lf => ⟨L, rfl, ⟨_, SqL.of hL⟩, fun Dx nD => ?_⟩⟩
    have hS2 := (hS.same s1).same s2
    refine lc_map (K := K) (walk_list (xs := fs.map V.str)) ((fs.map fun r => decide (r ∈ st)).map D.bl) (by rw [List.length_map, List.length_map, List.length_map]) (bl_flat _) nD (by rw [List.length_map]; omega) (fun H' s => SqL.of (s _ _ hL)) ?_ ?_ gName_mono
    · rintro m d x H4 H5 Q' hm hd s4 ⟨rfl, hx⟩ kk
      rw [List.getElem?_map] at hx
      cases hn : fs[m]? with
      | none => rw [hn] at hx; cases hx
      | some r =>
        rw [hn] at hx
        cases hx
        have ed : d = .bl (decide (r ∈ st)) := by
          rw [List.map_map, List.getElem?_map, hn] at hd
          exact (Option.some.inj hd).symm
        subst ed
        exact ⟨rfl, _, rfl, _, rfl, in_read (neg := false) (hS2.same s4) (kk _ _ (Same.refl _) (.bl _))⟩
    · intro H4 zs s4 hD r
      have e := rp_bls r
      subst e
      refine ⟨Dx, fs.map fun r => decide (r ∈ st), rfl, SqL.of hD, _, rfl, ?_⟩
      have q := kQ H4 ((s1.trans s2).trans s4)
      have eh : (fs.map fun r => decide (r ∈ st)).any id = hasS st (t.rows B) := by
        rw [List.any_map]
        unfold hasS
        rw [Bool.eq_iff_iff, List.any_eq_true, List.any_eq_true]
        exact ⟨fun ⟨x, hx, h⟩ => ⟨x, (hfs x).mp hx, h⟩, fun ⟨x, hx, h⟩ => ⟨x, (hfs x).mpr hx, h⟩⟩
      rw [eh]
      exact q
theorem scIsOld : FnScope ["rulebook", "struck", "name", "thing", "row"] ["rulebook", "struck", "name", "thing"] (defScope sIsOld) := ⟨rfl, rfl, rfl, by decide +kernel, rfl, by decide +kernel, by decide +kernel⟩
theorem ok_isOld {f : Addr} {fd : FuncData} (F : Fun K "is_old_tree" "is_old_tree" sIsOld f fd) (za : mg "any" = none) (CT : Cal P w K mg base 28 "is_tree" ["rulebook", "name", "thing"] (spIsTree K 18)) (CR : Cal P w K mg base 5 "rows_in" ["rulebook", "tree"] (spRowsIn K)) : FnOk P w K mg base CX0 29 f fd ["rulebook", "struck", "name", "thing"] (spIsSort K false) := by
  refine F.ok scIsOld (fun vs H Q E h => ?_) (fun cdv A outer s H vs Q E hr h => ?_)
  · obtain ⟨p, S, v, B, st, n, t, rfl, _⟩ := h
    rfl
  · obtain ⟨p, S, v, B, st, n, t, rfl, rp, ok, hS, rt, it, hl, hsz, kQ⟩ := h
    have nd := scIsOld.nd
    have hr5 := hr.mono (by decide : 5 ≤ 28)
    refine ⟨_, pss_one (ps_ret (pe_and (pe_cal CT hr rfl (pa_cons (pv 0) (pa_cons (pv 2) (pa_cons (pv 3) pa_nil)))) (pe_one (pe_callB (cr_any rfl) (by rfl) za PyProof.Rows.boot_any (pa_cons (pe_lc (own := [("row", 4)]) (g := gName 4) (tt := tYes) (te := tOp (rIn K false) (tVar 4) (tVar 1)) rfl nd (pi_list (pe_cal CR hr5 rfl (pa_cons (pv 0) (pa_cons (pv 3) pa_nil))))
      (blkOk_by (own := [("row", 4)]) (N := ["rulebook", "struck", "name", "thing", "row"]) (sc := defScope sIsOld) (by decide +kernel)) (fun _ _ _ _ _ => pg_name (i := 4) nd rfl (Or.inl rfl)) (fun _ _ _ _ _ => pts_nil) (fun _ _ _ _ _ => pe_cmpR op_in_seq (pv 4) (pv 1) (by rfl))) pa_nil))))), ?_⟩
    refine ⟨_, rfl, _, rfl, _, rfl, p, v, B, n, t, rfl, rp, ok, rt, it, hl, fun H1 s1 => ⟨true, rfl, iteT ?_⟩⟩
    refine ⟨_, rfl, _, rfl, p, v, B, t, rfl, rp.same s1, ok, rt.same s1, ⟨n, it⟩, hl, hsz, fun L H2 fs s2 nL hL hfs lf => ⟨L, rfl, ⟨_, SqL.of hL⟩, fun Dx nD => ?_⟩⟩
    have hS2 := (hS.same s1).same s2
    refine lc_map (K := K) (walk_list (xs := fs.map V.str)) ((fs.map fun r => decide (r ∈ st)).map D.bl) (by rw [List.length_map, List.length_map, List.length_map]) (bl_flat _) nD (by rw [List.length_map]; omega) (fun H' s => SqL.of (s _ _ hL)) ?_ ?_ gName_mono
    · rintro m d x H4 H5 Q' hm hd s4 ⟨rfl, hx⟩ kk
      rw [List.getElem?_map] at hx
      cases hn : fs[m]? with
      | none => rw [hn] at hx; cases hx
      | some r =>
        rw [hn] at hx
        cases hx
        have ed : d = .bl (decide (r ∈ st)) := by
          rw [List.map_map, List.getElem?_map, hn] at hd
          exact (Option.some.inj hd).symm
        subst ed
        exact ⟨rfl, _, rfl, _, rfl, in_read (neg := false) (hS2.same s4) (kk _ _ (Same.refl _) (.bl _))⟩
    · intro H4 zs s4 hD r
      have e := rp_bls r
      subst e
      refine ⟨Dx, fs.map fun r => decide (r ∈ st), rfl, SqL.of hD, ?_⟩
      have q := kQ H4 ((s1.trans s2).trans s4)
      have eh : (fs.map fun r => decide (r ∈ st)).any id = hasS st (t.rows B) := by
        rw [List.any_map]
        unfold hasS
        rw [Bool.eq_iff_iff, List.any_eq_true, List.any_eq_true]
        exact ⟨fun ⟨x, hx, h⟩ => ⟨x, (hfs x).mp hx, h⟩, fun ⟨x, hx, h⟩ => ⟨x, (hfs x).mpr hx, h⟩⟩
      rw [eh]
      exact q
end
end Gy

namespace Gy
open PySem L2 PySem.Spec PyProof.Rows
/-! ### the law's own: tree_rows, is_whole, is_tree, is_sort_of_tree -/
theorem restR_take (B : Bk) : ∀ {g : List Nd} {os : List (Option Tr)} {j : Nat} {n : Nd} {o : Option Tr}, g[j]? = some n → os[j]? = some o → restR B (g.take (j + 1)) (os.take (j + 1)) = restR B (g.take j) (os.take j) ++ rowZ B n o
  | n' :: g, o' :: os, 0, n, o, h1, h2 => by
    cases h1
    cases h2
    show rowZ B n' o' ++ restR B (g.take 0) (os.take 0) = [] ++ rowZ B n' o'
    rw [List.take_zero]
    show rowZ B n' o' ++ [] = _
    rw [List.append_nil, List.nil_append]
  | n' :: g, o' :: os, j + 1, n, o, h1, h2 => by
    have ih := restR_take B (g := g) (os := os) (j := j) h1 h2
    show rowZ B n' o' ++ restR B (g.take (j + 1)) (os.take (j + 1)) = (rowZ B n' o' ++ restR B (g.take j) (os.take j)) ++ _
    rw [ih, List.append_assoc]
  | [], _, _, _, _, h1, _ => by simp at h1
  | _ :: _, [], _, _, _, _, h2 => by simp at h2
mutual
theorem IsTr.rows_len {B : Bk} (ok : BOk B) : ∀ {n : Str} {t : Tr}, IsTr B n t → (t.rows B).length ≤ 3 * t.size
  | _, _, @IsTr.mk _ k i g ps hk hg hm h => by
    have q := IsTrs.rows_len ok h
    have l3 := ((ok.kinds k hk).gs g (List.mem_of_getElem? hg)).len
    show (ps.rows B (B.gAt k.name i)).length ≤ 3 * (1 + ps.size)
    rw [gAt_of ok hk hg]
    omega
theorem IsTrs.rows_len {B : Bk} (ok : BOk B) : ∀ {g : List Nd} {ps : Trs}, IsTrs B g ps → (ps.rows B g).length ≤ g.length + 3 * ps.size
  | _, _, .nil => Nat.le_refl _
  | _, _, @IsTrs.row _ r t m g ps h => by
    have q := IsTrs.rows_len ok h
    show ([r] ++ ps.rows B g).length ≤ (g.length + 1) + 3 * ps.size
    rw [List.length_append]
    show 1 + _ ≤ _
    omega
  | _, _, @IsTrs.kid _ n a t m g T ps h h' => by
    have q := IsTr.rows_len ok h
    have q' := IsTrs.rows_len ok h'
    show (T.rows B ++ ps.rows B g).length ≤ (g.length + 1) + 3 * (T.size + ps.size)
    rw [List.length_append]
    omega
end
mutual
theorem IsTr.rows_in {B : Bk} (ok : BOk B) : ∀ {n : Str} {t : Tr}, IsTr B n t → ∀ r ∈ t.rows B, r ∈ B.rows
  | _, _, @IsTr.mk _ k i g ps hk hg hm h => fun r hr => by
    have okg := (ok.kinds k hk).gs g (List.mem_of_getElem? hg)
    have hr' : r ∈ ps.rows B (B.gAt k.name i) := hr
    rw [gAt_of ok hk hg] at hr'
    exact IsTrs.rows_in ok h (fun x hx => okg.ok x hx) r hr'
theorem IsTrs.rows_in {B : Bk} (ok : BOk B) : ∀ {g : List Nd} {ps : Trs}, IsTrs B g ps → (∀ x ∈ g, x.ok B.rows B.names) → ∀ r ∈ ps.rows B g, r ∈ B.rows
  | _, _, .nil => fun _ r hr => by cases hr
  | _, _, @IsTrs.row _ r t m g ps h => fun hx r' hr => by
    have hr' : r' ∈ [r] ++ ps.rows B g := hr
    rcases List.mem_append.mp hr' with e | e
    · rw [List.mem_singleton.mp e]
      exact (hx _ List.mem_cons_self).1
    · exact IsTrs.rows_in ok h (fun x hx' => hx x (List.mem_cons_of_mem _ hx')) r' e
  | _, _, @IsTrs.kid _ n a t m g T ps h h' => fun hx r' hr => by
    have hr' : r' ∈ T.rows B ++ ps.rows B g := hr
    rcases List.mem_append.mp hr' with e | e
    · exact IsTr.rows_in ok h r' e
    · exact IsTrs.rows_in ok h' (fun x hx' => hx x (List.mem_cons_of_mem _ hx')) r' e
end
theorem size_kid : ∀ {ps : Trs} {j : Nat} {T : Tr}, ps.ol[j]? = some (some T) → T.size ≤ ps.size
  | .row r, 0, _, h => by cases h
  | .row r, j + 1, T, h => size_kid (ps := r) (j := j) h
  | .kid t r, 0, T, h => by
    cases h
    exact Nat.le_add_right _ _
  | .kid t r, j + 1, T, h => Nat.le_trans (size_kid (ps := r) (j := j) h) (Nat.le_add_left _ _)
  | .nil, _, _, h => by
    have h' : ([] : List (Option Tr))[_]? = some _ := h
    simp at h'
abbrev sTreeRows : Stmt := top 50
def spTreeRows (K : PySem.W.Frag) (d : Nat) : Sp := fun vs H Q _ => ∃ (p : Addr) (v : V) (B : Bk) (n : Str) (t : Tr), vs = [.ref p, v] ∧ Rp K H (.ref p) B.d ∧ BOk B ∧ Rp K H v t.d ∧ IsTr B n t ∧ t.lev ≤ d ∧ t.size ≤ 30000 ∧
  ∀ (L : Addr) (H' : Hp), Same H H' → H L = none → H' L = some (.lst ((t.rows B).map V.str)) → Q (.ref L) H'
abbrev sIsWhole : Stmt := top 54
abbrev sIsTreeL : Stmt := top 51
def spIsTreeL (K : PySem.W.Frag) (d : Nat) : Sp := fun vs H Q _ => ∃ (p dl : Addr) (v : V) (B : Bk) (n : Str) (t : Tr), vs = [.ref p, .ref dl, .str n, v] ∧ Rp K H (.ref p) B.d ∧ BOk B ∧ KL H dl B ∧ Rp K H v t.d ∧ IsTr B n t ∧ t.lev ≤ d ∧ ∀ H', Same H H' → Q (.bl true) H'
abbrev sSortL : Stmt := top 52
def spSortL (K : PySem.W.Frag) : Sp := fun vs H Q _ => ∃ (p S dl : Addr) (v : V) (B : Bk) (st : List Str) (n : Str) (t : Tr) (b : Bool), vs = [.ref p, .ref S, .ref dl, .str n, v, .bl b] ∧ Rp K H (.ref p) B.d ∧ BOk B ∧ SqQ H S (st.map V.str) ∧ KL H dl B ∧ Rp K H v t.d ∧ IsTr B n t ∧ t.lev ≤ 18 ∧ t.size ≤ 30000 ∧ hasS st (t.rows B) = b ∧ ∀ H', Same H H' → Q (.bl true) H'
section
variable {P : Program} {w : World} {K : PySem.W.Frag} {mg : Str → Option Value} {base : Heap}
theorem scIsWhole : FnScope ["_law_thing"] ["_law_thing"] (defScope sIsWhole) := ⟨rfl, rfl, rfl, by decide +kernel, rfl, by decide +kernel, by decide +kernel⟩
theorem ok_isWhole {f : Addr} {fd : FuncData} (F : Fun K "_law_is_whole" "_law_is_whole" sIsWhole f fd) (zi : mg "isinstance" = none) (zn : mg "int" = none) (zb : mg "bool" = none) : FnOk P w K mg base CX0 1 f fd ["_law_thing"] spIsInt := by
  refine F.ok scIsWhole (fun vs H Q E h => ?_) (fun cdv A outer s H vs Q E hr h => ?_)
  · obtain ⟨i, rfl, _⟩ := h
    rfl
  · obtain ⟨i, rfl, q⟩ := h
    refine ⟨_, pss_one (ps_ret (pe_and (pe_callB call_isi (by rfl) zi boot_isinstance (pa_cons (pv 0) (pa_cons (pe_bltn (v := .ty "int") (by rfl) zn boot_int rfl) pa_nil))) (pe_one (pe_not (pe_callB call_isi (by rfl) zi boot_isinstance (pa_cons (pv 0) (pa_cons (pe_bltn (v := .ty "bool") (by rfl) zb boot_bool rfl) pa_nil))))))), ?_⟩
    refine ⟨_, rfl, .int i, .ty "int", .type "int", .type "int", true, rfl, .ty _, .base (.int i), kit_ty (by decide +kernel), true, rfl, iteT ⟨_, rfl, .int i, .ty "bool", .type "int", .type "bool", false, rfl, .ty _, .base (.int i), kit_ty (by decide +kernel), false, rfl, q⟩⟩
theorem scTreeRows : FnScope ["_law_rulebook_here", "_law_tree", "_law_ground_here", "_law_found", "_law_need_here", "_law_part"] ["_law_rulebook_here", "_law_tree"] (defScope sTreeRows) := ⟨rfl, rfl, rfl, by decide +kernel, rfl, by decide +kernel, by decide +kernel⟩
theorem ok_treeRows {f : Addr} {fd : FuncData} (F : Fun K "_law_tree_rows" "_law_tree_rows" sTreeRows f fd) (hm : mg "_law_tree_rows" = some (.ref f)) (hb : L2.Binds K fd ["_law_rulebook_here", "_law_tree"] []) (hk : PySem.W.keepIn K (.ref f) = true)
    (zz : mg "zip" = none) (CK : Cal P w K mg base 1 "_law_kinds_of" ["_law_rulebook_here"] (spKindsOf K)) : ∀ d : Nat, FnOk P w K mg base CX0 (2 + d) f fd ["_law_rulebook_here", "_law_tree"] (spTreeRows K d)
  | 0 => F.ok (k := 1) scTreeRows (fun vs H Q E h => by
      obtain ⟨p, v, B, n, t, rfl, _⟩ := h
      rfl) fun cdv A outer s H vs Q E hr h => by
      obtain ⟨p, v, B, n, t, _, _, _, _, _, hl, _⟩ := h
      have := t.lev_pos
      omega
  | d + 1 => by
    have IH := ok_treeRows F hm hb hk zz CK d
    have CT : Cal P w K mg base (2 + d) "_law_tree_rows" ["_law_rulebook_here", "_law_tree"] (spTreeRows K d) := ⟨f, fd, hm, hb, hk, IH⟩
    refine F.ok (k := 2 + d) scTreeRows (fun vs H Q E h => ?_) (fun cdv A outer s H vs Q E hr h => ?_)
    · obtain ⟨p, v, B, n, t, rfl, _⟩ := h
      rfl
    · obtain ⟨p, v, B, n, t, rfl, rp, ok, rt, it, hl, hsz, kQ⟩ := h
      have nd := scTreeRows.nd
      have hu0 := hu_of hr
      have hr1 := hr.mono (by omega : 1 ≤ 2 + d)
      have hz := sizeLine_eq
      refine ⟨_, pss_cons (ps_par (i := 2) (j := 3) (by rfl) nd rfl rfl (by decide) rfl rfl (pa_cons (pe_ix ix_tup (pe_ix ix_tup (pe_dget hu0 (pe_cal CK hr1 rfl (pa_cons (pv 0) pa_nil)) (pe_ix ix_tup (pv 1) pe_int (fun _ _ => rfl)) (fun _ _ => rfl)) pe_int (fun _ _ => rfl)) (pe_ix ix_tup (pv 1) pe_int (fun _ _ => rfl)) (fun _ _ => rfl)) (pa_cons (pe_lst pa_nil) pa_nil)) (by rfl))
        (pss_cons (ps_for PassesOwn.never rfl (RZ.pi_zipA (by rfl) zz (pa_cons (pv 2) (pa_cons (pe_ix ix_tup (pv 1) pe_int (fun _ _ => rfl)) pa_nil))) (pg_tup rfl (pgs_cons (pg_name (i := 4) nd rfl (Or.inl rfl)) (pgs_cons (pg_name (i := 5) nd rfl (Or.inl rfl)) pgs_nil)))
          (pss_one (ps_set (i := 3) nd rfl (Or.inl rfl) (pe_op op_cat (pv 3) (pe_ifExp (pt_cmpR op_isN (pv 5) pe_non (nomark _)) (pe_lst (pa_cons (pe_ix ix_tup (pv 4) pe_int (fun _ _ => rfl)) pa_nil)) (pe_cal CT hr rfl (pa_cons (pv 0) (pa_cons (pv 5) pa_nil))))))))
        (pss_one (ps_ret (pv 3)))), ?_⟩
      cases it with
      | @mk k i g ps hkk hg hmb hps =>
        have rlen := IsTr.rows_len ok (.mk hkk hg hmb hps)
        obtain ⟨ta, pa, pvs, rfl, hta, hpa, rps⟩ := Tr.rp rt
        have lol := isTrs_len hps
        have lps : pvs.length = g.length := by rw [rps.len, List.length_map, lol]
        have hl' : ps.lev ≤ d := by
          have : 1 + ps.lev ≤ d + 1 := hl
          omega
        have erows : (Tr.mk k.name i ps).rows B = restR B g ps.ol := by
          show ps.rows B (B.gAt k.name i) = _
          rw [gAt_of ok hkk hg, rows_rest hps]
        rw [erows] at rlen
        refine ⟨_, rfl, p, B, rfl, rp, ok, fun kd H1 kts s1 nkd hkd rkts => ?_⟩
        have kdt : KDT K H1 kd B := ⟨kts, .inl hkd, rkts⟩
        obtain ⟨tv, htv, rtv⟩ := kdt.get ok hkk
        obtain ⟨tta, tg, tgs, rfl, htta, htg, rtg⟩ := Kd.rp_tl rtv
        have hta1 := s1 _ _ hta
        have hpa1 := s1 _ _ hpa
        obtain ⟨gv, hgv, rgv⟩ := at_to rtg hg
        obtain ⟨ga, nvs, rfl, hga, rn⟩ := gd_rp rgv
        have ln : nvs.length = g.length := by rw [rn.len, List.length_map]
        refine ⟨_, rfl, ta, _, 0, .str k.name, rfl, rfl, SqT.of hta1, atI_nat (j := 0) rfl, kd, .ref tta, rfl, htv, tta, _, 2, .ref tg, rfl, rfl, SqT.of htta, atI_nat (j := 2) rfl, _, rfl, ta, _, 1, .int (i : Nat), rfl, rfl, SqT.of hta1, atI_nat (j := 1) rfl, tg, _, i, .ref ga, rfl, rfl, SqT.of htg, atI_nat hgv, Nat.zero_le _, fun L nL => ⟨_, _, rfl, ?_⟩⟩
        have s2 : Same H1 (upd H1 L (.lst [])) := same_new (Same.refl H1) nL
        have h2 : upd H1 L (.lst []) L = some (.lst []) := upd_same
        generalize upd H1 L (.lst []) = H2 at s2 h2
        try dsimp only
        show tSeq _ _ _ [some (.ref p), some (.ref ta), some (.ref ga), some (.ref L), none, none] H2
        have hga2 := s2 _ _ hga
        have hpa2 := s2 _ _ hpa1
        refine ⟨_, rfl, _, rfl, ta, _, 2, .ref pa, rfl, rfl, SqT.of (s2 _ _ hta1), atI_nat (j := 2) rfl, ga, pa, nvs, pvs, rfl, .inr ⟨SqT.of hga2, SqT.of hpa2, RZ.for_zipT (xs := nvs) (ys := pvs) (by rw [ln, lps]) (fun j σ' H' => ∃ L', (∃ x4 x5, σ' = [some (.ref p), some (.ref ta), some (.ref ga), some (.ref L'), x4, x5]) ∧ Same H2 H' ∧ H1 L' = none ∧ H' L' = some (.lst ((restR B (g.take j) (ps.ol.take j)).map V.str)))
          ⟨L, ⟨_, _, rfl⟩, Same.refl H2, nL, h2⟩ (fun j σ' H' ⟨L', _, z, _, _⟩ => ⟨SqT.of (z _ _ hga2), SqT.of (z _ _ hpa2)⟩) ?_ ?_⟩⟩
        · rintro j x y T σ' H' hx hy ⟨L', ⟨x4, x5, rfl⟩, s3, nL', hL'⟩ nT
          obtain ⟨nn, hn, rx⟩ := at_of rn hx
          obtain ⟨o, ho, ry⟩ := at_of rps hy
          have s4 : Same H' (upd H' T (.tup [x, y])) := same_new (Same.refl H') nT
          have hT : upd H' T (.tup [x, y]) T = some (.tup [x, y]) := upd_same
          generalize upd H' T (.tup [x, y]) = H4 at s4 hT
          have s24 := s3.trans s4
          have s14 := s2.trans s24
          have rx4 := rx.same s14
          have ry4 := ry.same (s1.trans s14)
          have hL4 := s4 _ _ hL'
          refine ⟨T, _, rfl, SqT.of hT, rfl, _, _, rfl, _, _, rfl, rfl, ?_⟩
          try dsimp only
          show tAsg _ _ _ [some (.ref p), some (.ref ta), some (.ref ga), some (.ref L'), some x, some y] H4
          have es := restR_take B hn ho
          have jl := (List.getElem?_eq_some_iff.mp hn).1
          -- how long it can be
          have ltot : (restR B (g.take (j + 1)) (ps.ol.take (j + 1))).length ≤ (restR B g ps.ol).length := by
            have : ∀ (a : List Nd) (b : List (Option Tr)) (n : Nat), (restR B (a.take n) (b.take n)).length ≤ (restR B a b).length := by
              intro a
              induction a with
              | nil => intro b n; rw [List.take_nil]; exact Nat.le_refl _
              | cons u a ih =>
                intro b n
                cases b with
                | nil => rw [List.take_nil]; cases n <;> exact Nat.zero_le _
                | cons v b =>
                  cases n with
                  | zero => exact Nat.zero_le _
                  | succ n =>
                    have := ih b n
                    show (rowZ B u v ++ restR B (a.take n) (b.take n)).length ≤ (rowZ B u v ++ restR B a b).length
                    rw [List.length_append, List.length_append]
                    omega
            exact this _ _ _
          rw [es, List.length_append] at ltot
          refine ⟨_, rfl, ?_⟩
          have fin : ∀ (Z : Addr) (H5 : Hp), Same H4 H5 → H5 Z = some (.lst ((rowZ B nn o).map V.str)) → ∃ a b xs ys, V.ref L' = .ref a ∧ V.ref Z = .ref b ∧ H5 a = some (.lst xs) ∧ H5 b = some (.lst ys) ∧ xs.length + ys.length ≤ sizeLine ∧ ∀ p', H5 p' = none → (∃ L', (∃ x4 x5, [some (V.ref p), some (.ref ta), some (.ref ga), some (V.ref p'), some x, some y] = [some (.ref p), some (.ref ta), some (.ref ga), some (.ref L'), x4, x5]) ∧ Same H2 (upd H5 p' (.lst (xs ++ ys))) ∧ H1 L' = none ∧ upd H5 p' (.lst (xs ++ ys)) L' = some (.lst ((restR B (g.take (j + 1)) (ps.ol.take (j + 1))).map V.str))) := fun Z H5 s5 hZ => by
            refine ⟨L', Z, _, _, rfl, rfl, s5 _ _ hL4, hZ, by rw [List.length_map, List.length_map]; have : (Tr.mk k.name i ps).size ≤ 30000 := hsz; omega, fun p' np' => ?_⟩
            have s6 := same_new (o := .lst ((restR B (g.take j) (ps.ol.take j)).map V.str ++ (rowZ B nn o).map V.str)) (Same.refl H5) np'
            exact ⟨p', ⟨_, _, rfl⟩, (s24.trans s5).trans s6, (s14.trans s5).free np', by rw [upd_same, es, List.map_append]⟩
          cases nn with
          | row r tt mm =>
            have eo := isTrs_row hps hn
            rw [ho] at eo
            cases eo
            have ey : y = .non := by cases ry4; rfl
            subst ey
            obtain ⟨u, rfl, hu⟩ := nd_rp rx4
            refine ⟨_, rfl, rfl, _, rfl, iteT ⟨_, rfl, u, _, 1, .str r, rfl, rfl, SqT.of hu, atI_nat (j := 1) rfl, by show 1 ≤ sizeLine; decide, fun Z nZ => ?_⟩⟩
            exact fin Z _ (same_new (Same.refl H4) nZ) upd_same
          | knd n' a tt mm =>
            obtain ⟨U, hU, iU, lU⟩ := isTrs_kid hps hn
            rw [ho] at hU
            cases hU
            obtain ⟨ya, rfl⟩ : ∃ ya, y = .ref ya := by
              cases U with
              | mk n'' i'' ps'' =>
                obtain ⟨ya, _, _, e, _⟩ := Tr.rp ry4
                exact ⟨ya, e⟩
            refine ⟨_, rfl, rfl, _, rfl, iteF ⟨_, rfl, _, rfl, p, _, B, n', U, rfl, rp.same (s1.trans s14), ok, ry4, iU, Nat.le_trans lU hl', ?_, fun Z H5 s5 nZ hZ => fin Z H5 s5 hZ⟩⟩
            have : 1 + ps.size ≤ 30000 := hsz
            have := size_kid ho
            omega
        · rintro σ' H' ⟨L', ⟨x4, x5, rfl⟩, s3, nL', hL'⟩
          rw [ln, List.take_length, ← lol, List.take_length, ← erows] at hL'
          exact ⟨_, rfl, kQ L' H' ((s1.trans s2).trans s3) (s1.free nL') hL'⟩
theorem scIsTreeL : FnScope ["_law_rulebook_here", "_law_live_here", "_law_name", "_law_thing", "_law_ground_here", "_law_need_here", "_law_part"] ["_law_rulebook_here", "_law_live_here", "_law_name", "_law_thing"] (defScope sIsTreeL) := ⟨rfl, rfl, rfl, by decide +kernel, rfl, by decide +kernel, by decide +kernel⟩
theorem ok_isTreeL {f : Addr} {fd : FuncData} (F : Fun K "_law_is_tree" "_law_is_tree" sIsTreeL f fd) (hm : mg "_law_is_tree" = some (.ref f)) (hb : L2.Binds K fd ["_law_rulebook_here", "_law_live_here", "_law_name", "_law_thing"] []) (hk : PySem.W.keepIn K (.ref f) = true)
    (zi : mg "isinstance" = none) (zl : mg "len" = none) (zt : mg "tuple" = none) (zz : mg "zip" = none) (CW : Cal P w K mg base 1 "_law_is_whole" ["_law_thing"] spIsInt) (CK : Cal P w K mg base 1 "_law_kinds_of" ["_law_rulebook_here"] (spKindsOf K)) (CA : CalG P w K mg base NoGuard 1 "_law_alike" ["_law_found", "_law_due"] (spAlikeX K)) :
    ∀ d : Nat, FnG NoGuardC P w K mg base (2 + d) f fd ["_law_rulebook_here", "_law_live_here", "_law_name", "_law_thing"] (spIsTreeL K d)
  | 0 => fn_ofG (c := true) (k := 1) F scIsTreeL (fun A h _ => h.2) (fun vs H Q E h => by
      obtain ⟨p, dl, v, B, n, t, rfl, _⟩ := h
      rfl) fun cdv A outer s H vs Q E hG hr h => by
      obtain ⟨p, dl, v, B, n, t, _, _, _, _, _, _, hl, _⟩ := h
      have := t.lev_pos
      omega
  | d + 1 => by
    have IH := ok_isTreeL F hm hb hk zi zl zt zz CW CK CA d
    have CT : CalG P w K mg base NoGuardC (2 + d) "_law_is_tree" ["_law_rulebook_here", "_law_live_here", "_law_name", "_law_thing"] (spIsTreeL K d) := ⟨f, fd, hm, hb, hk, IH⟩
    refine fn_ofG (c := true) (k := 2 + d) F scIsTreeL (fun A h _ => h.2) (fun vs H Q E h => ?_) (fun cdv A outer s H vs Q E hG hr h => ?_)
    · obtain ⟨p, dl, v, B, n, t, rfl, _⟩ := h
      rfl
    · obtain ⟨p, dl, v, B, n, t, rfl, rp, ok, kl, rt, it, hl, kQ⟩ := h
      have nd := scIsTreeL.nd
      have hg : (A.deeper (envOfC "_law_is_tree" (defScope sIsTreeL) s.heap.objs.size f cdv)).guards = some [] := hG.1
      have hGC : NoGuardC (A.deeper (envOfC "_law_is_tree" (defScope sIsTreeL) s.heap.objs.size f cdv)) := hG
      have hR : Room (2 + d) (A.deeper (envOfC "_law_is_tree" (defScope sIsTreeL) s.heap.objs.size f cdv)) := ⟨hG.2, hr.dp, hr.un⟩
      have hR1 := hR.mono (by omega : 1 ≤ 2 + d)
      have hr1 := hr.mono (by omega : 1 ≤ 2 + d)
      have hu0 := hu_of hR
      refine ⟨_, pss_cons (ps_if (PW.pt (pw_or (pt_not (pt_val (pe_callB call_isi (by rfl) zi boot_isinstance (pa_cons (pv 3) (pa_cons (pe_bltn (v := .ty "tuple") (by rfl) zt boot_tuple rfl) pa_nil))))) (pw_or (pt_cmpR op_ne (pe_callB call_len_seq (by rfl) zl PySem.boot_len (pa_cons (pv 3) pa_nil)) pe_int (nomark _)) (pw_or1 (pt_not (pt_val (pe_calG CA hr1 hg rfl (pa_cons (pe_ix ix_tup (pv 3) pe_int (fun _ _ => rfl)) (pa_cons (pv 2) pa_nil))))))))) (pss_one (ps_ret pe_bl)) pss_nil)
        (pss_cons (ps_if (PW.pt (pw_or (pt_not (pt_val (pe_cal CW hR1 rfl (pa_cons (pe_ix ix_tup (pv 3) pe_int (fun _ _ => rfl)) pa_nil)))) (pw_or (pt_cmpR op_notIn_seq (pe_ix ix_tup (pv 3) pe_int (fun _ _ => rfl)) (pe_dget hu0 (pv 1) (pv 2) (fun _ _ => rfl)) (by rfl)) (pw_or1 (pt_not (pt_val (pe_callB call_isi (by rfl) zi boot_isinstance (pa_cons (pe_ix ix_tup (pv 3) pe_int (fun _ _ => rfl)) (pa_cons (pe_bltn (v := .ty "tuple") (by rfl) zt boot_tuple rfl) pa_nil))))))))) (pss_one (ps_ret pe_bl)) pss_nil)
        (pss_cons (ps_set (i := 4) nd rfl (Or.inl rfl) (pe_ix ix_tup (pe_ix ix_tup (pe_dget hu0 (pe_cal CK hR1 rfl (pa_cons (pv 0) pa_nil)) (pv 2) (fun _ _ => rfl)) pe_int (fun _ _ => rfl)) (pe_ix ix_tup (pv 3) pe_int (fun _ _ => rfl)) (fun _ _ => rfl)))
        (pss_cons (ps_if (pt_cmpR op_ne (pe_callB call_len_seq (by rfl) zl PySem.boot_len (pa_cons (pv 4) pa_nil)) (pe_callB call_len_seq (by rfl) zl PySem.boot_len (pa_cons (pe_ix ix_tup (pv 3) pe_int (fun _ _ => rfl)) pa_nil)) (nomark _)) (pss_one (ps_ret pe_bl)) pss_nil)
        (pss_cons (ps_for PassesOwn.never rfl (RZ.pi_zipA (by rfl) zz (pa_cons (pv 4) (pa_cons (pe_ix ix_tup (pv 3) pe_int (fun _ _ => rfl)) pa_nil))) (pg_tup rfl (pgs_cons (pg_name (i := 5) nd rfl (Or.inl rfl)) (pgs_cons (pg_name (i := 6) nd rfl (Or.inl rfl)) pgs_nil)))
          (pss_cons (ps_if (PW.pt (pw_and (pt_cmpR op_eq (pe_ix ix_tup (pv 5) pe_int (fun _ _ => rfl)) pe_str (nomark _)) (pw_and1 (pt_cmpR op_notN (pv 6) pe_non (nomark _))))) (pss_one (ps_ret pe_bl)) pss_nil)
          (pss_one (ps_if (PW.pt (pw_and (pt_cmpR op_eq (pe_ix ix_tup (pv 5) pe_int (fun _ _ => rfl)) pe_str (nomark _)) (pw_and1 (pt_not (pt_val (pe_calG CT hr hGC rfl (pa_cons (pv 0) (pa_cons (pv 1) (pa_cons (pe_ix ix_tup (pv 5) pe_int (fun _ _ => rfl)) (pa_cons (pv 6) pa_nil)))))))))) (pss_one (ps_ret pe_bl)) pss_nil))))
        (pss_one (ps_ret pe_bl)))))), ?_⟩
      cases it with
      | @mk k i g ps hkk hg' hmb hps =>
        obtain ⟨ta, pa, pvs, rfl, hta, hpa, rps⟩ := Tr.rp rt
        have lps : pvs.length = g.length := by rw [rps.len, List.length_map, isTrs_len hps]
        have hl' : ps.lev ≤ d := by
          have : 1 + ps.lev ≤ d + 1 := hl
          omega
        refine ⟨_, rfl, .ref ta, .ty "tuple", .type "tuple", .type "tuple", true, rfl, .ty _, .base (.tup hta), kit_ty (by decide +kernel), true, rfl, iteF ?_⟩
        refine ⟨_, rfl, ta, _, rfl, .inr (SqT.of hta), rfl, _, rfl, ?_⟩
        rw [nd_f (show V.int (([V.str k.name, .int (i : Nat), .ref pa].length : Nat) : Int) = V.int 3 from rfl)]
        refine iteF ⟨_, rfl, ta, _, 0, .str k.name, rfl, rfl, SqT.of hta, atI_nat (j := 0) rfl, _, rfl, _, _, rfl, AlikeX.of (.str k.name) (.str k.name) (fine_name (ok.name_in hkk)) (by decide) (by decide), true, rfl, iteF (next_open ?_)⟩
        -- the second if
        obtain ⟨la, hget, hla⟩ := kl.get ok hkk
        refine ⟨_, rfl, ta, _, 1, .int (i : Nat), rfl, rfl, SqT.of hta, atI_nat (j := 1) rfl, i, rfl, true, rfl, iteF ?_⟩
        refine ⟨_, rfl, ta, _, 1, .int (i : Nat), rfl, rfl, SqT.of hta, atI_nat (j := 1) rfl, _, rfl, _, rfl, dl, .ref la, rfl, hget, ?_⟩
        refine natIn_read (neg := true) (.inl hla) ⟨_, rfl, ?_⟩
        show if (!decide (i ∈ liveL B B.bear k.gs)) = true then _ else _
        rw [decide_eq_true (mem_live hg' hmb)]
        refine iteF ⟨_, rfl, ta, _, 2, .ref pa, rfl, rfl, SqT.of hta, atI_nat (j := 2) rfl, .ref pa, .ty "tuple", .type "tuple", .type "tuple", true, rfl, .ty _, .base (.tup hpa), kit_ty (by decide +kernel), true, rfl, iteF (next_open ?_)⟩
        -- ground
        refine ⟨_, rfl, p, B, rfl, rp, ok, fun kd H1 kts s1 nkd hkd rkts => ?_⟩
        have kdt : KDT K H1 kd B := ⟨kts, .inl hkd, rkts⟩
        obtain ⟨tv, htv, rtv⟩ := kdt.get ok hkk
        obtain ⟨tta, tg, tgs, rfl, htta, htg, rtg⟩ := Kd.rp_tl rtv
        have hta1 := s1 _ _ hta
        have hpa1 := s1 _ _ hpa
        obtain ⟨gv, hgv, rgv⟩ := at_to rtg hg'
        obtain ⟨ga, nvs, rfl, hga, rn⟩ := gd_rp rgv
        have ln : nvs.length = g.length := by rw [rn.len, List.length_map]
        refine ⟨_, rfl, kd, .ref tta, rfl, htv, tta, _, 2, .ref tg, rfl, rfl, SqT.of htta, atI_nat (j := 2) rfl, _, rfl, ta, _, 1, .int (i : Nat), rfl, rfl, SqT.of hta1, atI_nat (j := 1) rfl, tg, _, i, .ref ga, rfl, rfl, SqT.of htg, atI_nat hgv, ?_⟩
        try dsimp only
        show tSeq _ _ _ [some (.ref p), some (.ref dl), some (.str k.name), some (.ref ta), some (.ref ga), none, none] H1
        refine ⟨_, rfl, ga, _, rfl, .inr (SqT.of hga), _, rfl, ta, _, 2, .ref pa, rfl, rfl, SqT.of hta1, atI_nat (j := 2) rfl, pa, _, rfl, .inr (SqT.of hpa1), rfl, _, rfl, ?_⟩
        rw [nd_f (by rw [lps, ln])]
        refine iteF (next_open ?_)
        try dsimp only
        show tSeq _ _ _ [some (.ref p), some (.ref dl), some (.str k.name), some (.ref ta), some (.ref ga), none, none] H1
        refine ⟨_, rfl, _, rfl, ta, _, 2, .ref pa, rfl, rfl, SqT.of hta1, atI_nat (j := 2) rfl, ga, pa, nvs, pvs, rfl, .inr ⟨SqT.of hga, SqT.of hpa1, RZ.for_zipT (xs := nvs) (ys := pvs) (by rw [ln, lps]) (fun j σ' H' => (∃ x5 x6, σ' = [some (.ref p), some (.ref dl), some (.str k.name), some (.ref ta), some (.ref ga), x5, x6]) ∧ Same H1 H')
          ⟨⟨_, _, rfl⟩, Same.refl H1⟩ (fun j σ' H' z => ⟨SqT.of (z.2 _ _ hga), SqT.of (z.2 _ _ hpa1)⟩) ?_ ?_⟩⟩
        · rintro j x y T σ' H' hx hy ⟨⟨x5, x6, rfl⟩, s2⟩ nT
          obtain ⟨nn, hn, rx⟩ := at_of rn hx
          obtain ⟨o, ho, ry⟩ := at_of rps hy
          have s3 : Same H' (upd H' T (.tup [x, y])) := same_new (Same.refl H') nT
          have hT : upd H' T (.tup [x, y]) T = some (.tup [x, y]) := upd_same
          generalize upd H' T (.tup [x, y]) = H3 at s3 hT
          have s13 := s2.trans s3
          have rx3 := rx.same s13
          have ry3 := ry.same (s1.trans s13)
          refine ⟨T, _, rfl, SqT.of hT, rfl, _, _, rfl, _, _, rfl, rfl, ?_⟩
          try dsimp only
          show tSeq _ _ _ [some (.ref p), some (.ref dl), some (.str k.name), some (.ref ta), some (.ref ga), some x, some y] H3
          obtain ⟨u, rfl, hu⟩ := nd_rp rx3
          cases nn with
          | row r t m =>
            have eo := isTrs_row hps hn
            rw [ho] at eo
            cases eo
            have ey : y = .non := by cases ry3; rfl
            subst ey
            refine ⟨_, rfl, u, _, 0, .str "row", rfl, rfl, SqT.of hu, atI_nat (j := 0) rfl, rfl, _, rfl, ?_⟩
            have z : decide (V.str "row" = V.str "row") = true := decide_eq_true rfl
            rw [z]
            refine iteT ⟨_, rfl, rfl, _, rfl, iteF (next_open ?_)⟩
            refine ⟨_, rfl, u, _, 0, .str "row", rfl, rfl, SqT.of hu, atI_nat (j := 0) rfl, rfl, _, rfl, ?_⟩
            have z : decide (V.str "row" = V.str "kind") = false := by decide +kernel
            rw [z]
            exact iteF (iteF ⟨⟨_, _, rfl⟩, s13⟩)
          | knd n' a t m =>
            obtain ⟨U, hU, iU, lU⟩ := isTrs_kid hps hn
            rw [ho] at hU
            cases hU
            refine ⟨_, rfl, u, _, 0, .str "kind", rfl, rfl, SqT.of hu, atI_nat (j := 0) rfl, rfl, _, rfl, ?_⟩
            have z : decide (V.str "kind" = V.str "row") = false := by decide +kernel
            rw [z]
            refine iteF (iteF (next_open ⟨_, rfl, u, _, 0, .str "kind", rfl, rfl, SqT.of hu, atI_nat (j := 0) rfl, rfl, _, rfl, ?_⟩))
            have z : decide (V.str "kind" = V.str "kind") = true := decide_eq_true rfl
            rw [z]
            refine iteT ⟨_, rfl, _, rfl, _, rfl, u, _, 1, .str n', rfl, rfl, SqT.of hu, atI_nat (j := 1) rfl, _, rfl, p, dl, _, B, n', U, rfl, rp.same (s1.trans s13), ok, kl.same (s1.trans s13), ry3, iU, Nat.le_trans lU hl', fun H4 s4 => ⟨true, rfl, iteF ⟨⟨_, _, rfl⟩, s13.trans s4⟩⟩⟩
        · rintro σ' H' ⟨⟨x5, x6, rfl⟩, s2⟩
          exact kQ H' (s1.trans s2)
end
end Gy

namespace Gy
open PySem L2 PySem.Spec PyProof.Rows
section
variable {P : Program} {w : World} {K : PySem.W.Frag} {mg : Str → Option Value} {base : Heap}
theorem str_flat (s : Str) : (D.str s).flat = true := rfl
theorem scSortL : FnScope ["_law_rulebook_here", "_law_struck", "_law_live_here", "_law_name", "_law_thing", "_law_is_old", "_law_row"] ["_law_rulebook_here", "_law_struck", "_law_live_here", "_law_name", "_law_thing", "_law_is_old"] (defScope sSortL) := ⟨rfl, rfl, rfl, by decide +kernel, rfl, by decide +kernel, by decide +kernel⟩
theorem ok_sortL {f : Addr} {fd : FuncData} (F : Fun K "_law_is_sort_of_tree" "_law_is_sort_of_tree" sSortL f fd) (CI : CalG P w K mg base NoGuardC 20 "_law_is_tree" ["_law_rulebook_here", "_law_live_here", "_law_name", "_law_thing"] (spIsTreeL K 18)) (CR : Cal P w K mg base 20 "_law_tree_rows" ["_law_rulebook_here", "_law_tree"] (spTreeRows K 18)) :
    FnG NoGuardC P w K mg base 21 f fd ["_law_rulebook_here", "_law_struck", "_law_live_here", "_law_name", "_law_thing", "_law_is_old"] (spSortL K) := by
  refine fn_ofG (c := true) F scSortL (fun A h _ => h.2) (fun vs H Q E h => ?_) (fun cdv A outer s H vs Q E hG hr h => ?_)
  · obtain ⟨p, S, dl, v, B, st, n, t, b, rfl, _⟩ := h
    rfl
  · obtain ⟨p, S, dl, v, B, st, n, t, b, rfl, rp, ok, hS, kl, rt, it, hl, hsz, hb, kQ⟩ := h
    have nd := scSortL.nd
    have hGC : NoGuardC (A.deeper (envOfC "_law_is_sort_of_tree" (defScope sSortL) s.heap.objs.size f cdv)) := hG
    have hR : Room 20 (A.deeper (envOfC "_law_is_sort_of_tree" (defScope sSortL) s.heap.objs.size f cdv)) := ⟨hG.2, hr.dp, hr.un⟩
    have hu := hR.units
    have hz := sizeLine_eq
    refine ⟨_, pss_cons (ps_if (pt_not (pt_val (pe_calG CI hr hGC rfl (pa_cons (pv 0) (pa_cons (pv 2) (pa_cons (pv 3) (pa_cons (pv 4) pa_nil))))))) (pss_one (ps_ret pe_bl)) pss_nil)
      (pss_one (ps_ret (pe_cmpR op_eq (pe_cmpR (op_neD hu) (pe_lc (own := [("_law_row", 6)]) (g := gName 6) (tt := tTest (tOp (rIn K false) (tVar 6) (tVar 1))) (te := tVar 6) rfl nd (pi_list (pe_cal CR hR rfl (pa_cons (pv 0) (pa_cons (pv 4) pa_nil))))
        (blkOk_by (own := [("_law_row", 6)]) (N := ["_law_rulebook_here", "_law_struck", "_law_live_here", "_law_name", "_law_thing", "_law_is_old", "_law_row"]) (sc := defScope sSortL) (by decide +kernel)) (fun _ _ _ _ _ => pg_name (i := 6) nd rfl (Or.inl rfl)) (fun _ _ _ _ _ => pts_one (pt_cmpR op_in_seq (pv 6) (pv 1) (by rfl))) (fun _ _ _ _ _ => pv 6)) (pe_lst pa_nil) (nomark _)) (pv 5) (nomark _)))), ?_⟩
    refine ⟨_, rfl, _, rfl, _, rfl, _, rfl, p, dl, v, B, n, t, rfl, rp, ok, kl, rt, it, hl, fun H1 s1 => ⟨true, rfl, iteF (next_open ?_)⟩⟩
    have rlen := it.rows_len ok
    refine ⟨_, rfl, _, rfl, p, v, B, n, t, rfl, rp.same s1, ok, rt.same s1, it, hl, hsz, fun L H2 s2 nL hL => ⟨L, rfl, ⟨_, SqL.of hL⟩, fun Dx nD => ?_⟩⟩
    have hS2 := (hS.same s1).same s2
    refine lc_filt (K := K) (walk_list (xs := (t.rows B).map V.str)) (t.rows B) (fun r => decide (r ∈ st)) D.str (by rw [List.length_map]) str_flat nD (by rw [List.length_map]; omega) (fun H' s => SqL.of (s _ _ hL)) ?_ ?_
    · rintro m r x H4 H5 R Q' hm hr' s4 ⟨rfl, hx⟩ kR kQ'
      rw [List.getElem?_map, hr'] at hx
      cases hx
      refine ⟨rfl, _, rfl, _, rfl, in_read (neg := false) (hS2.same s4) ⟨_, rfl, ?_⟩⟩
      show if decide (r ∈ st) = true then _ else _
      refine ite2 (fun e => ?_) fun e => ?_
      · exact ⟨_, rfl, kQ' _ _ (Same.refl _) e (.str r)⟩
      · exact kR _ (Same.refl _) (by simpa using e)
    · intro H4 ys s4 hD r
      have ey := rp_strs r
      subst ey
      refine ⟨Nat.zero_le _, fun e ne => ?_⟩
      have s5 : Same H4 (upd H4 e (.lst [])) := same_new (Same.refl H4) ne
      have h5 : upd H4 e (.lst []) e = some (.lst []) := upd_same
      generalize upd H4 e (.lst []) = H5 at s5 h5
      obtain ⟨d1, d2, d3⟩ := strs_dp (s5 _ _ hD) fun x hx => ok.rows.mem x (it.rows_in ok x (List.mem_filter.mp hx).1)
      refine ⟨_, .list [], d1, .lst (SqL.of h5) .nil, d2, rfl, ?_⟩
      rw [d3]
      have eh : decide ((t.rows B).filter (fun r => decide (r ∈ st)) ≠ []) = hasS st (t.rows B) := by
        unfold hasS
        rw [Bool.eq_iff_iff, decide_eq_true_eq, List.any_eq_true]
        constructor
        · intro h
          obtain ⟨x, hx⟩ := List.exists_mem_of_ne_nil _ h
          exact ⟨x, (List.mem_filter.mp hx).1, (List.mem_filter.mp hx).2⟩
        · rintro ⟨x, hx, h⟩ e
          have : x ∈ (t.rows B).filter (fun r => decide (r ∈ st)) := List.mem_filter.mpr ⟨hx, h⟩
          rw [e] at this
          cases this
      rw [eh, hb]
      refine ⟨_, rfl, rfl, ?_⟩
      rw [decide_eq_true rfl]
      exact kQ H5 (((s1.trans s2).trans s4).trans s5)
end
end Gy

namespace Gy
open PySem L2 PySem.Spec PyProof.Rows
/-! ### least_levels -/
def WD (B : Bk) (w : Str → Nat) : List (Key × V) := B.names.map fun n => ((Sum.inr n : Key), V.int (w n : Nat))
theorem ndL {xs : List V} : ∀ kvs, HO.lst xs ≠ .dK kvs := fun _ z => nomatch z
theorem ndT {xs : List V} : ∀ kvs, HO.tup xs ≠ .dK kvs := fun _ z => nomatch z
theorem wd_val {w : Str → Nat} : ∀ {ns : List Str} {n : Str}, n ∈ ns → valV (ns.map fun n => ((Sum.inr n : Key), V.int (w n : Nat))) (Sum.inr n) = some (.int (w n : Nat))
  | m :: ns, n, h => by
    rw [List.map_cons]
    by_cases e : m = n
    · subst e
      exact valV_pos rfl
    · rw [valV_neg (fun z => e (by injection z))]
      exact wd_val ((List.mem_cons.mp h).resolve_left fun z => e z.symm)
theorem wd_put {w : Str → Nat} {ns : List Str} {n : Str} {x : Nat} (h : n ∈ ns) : putK (ns.map fun n => ((Sum.inr n : Key), V.int (w n : Nat))) (Sum.inr n) (.int (x : Nat)) = ns.map fun m => ((Sum.inr m : Key), V.int (putN w n x m : Nat)) := by
  unfold putK
  have ha : ((ns.map fun n => ((Sum.inr n : Key), V.int (w n : Nat))).any fun kv => decide (kv.1 = (Sum.inr n : Key))) = true := List.any_eq_true.mpr ⟨(Sum.inr n, V.int (w n : Nat)), List.mem_map_of_mem (f := fun n => ((Sum.inr n : Key), V.int (w n : Nat))) h, decide_eq_true rfl⟩
  rw [if_pos ha, List.map_map]
  refine List.map_congr_left fun m _ => ?_
  show (if (Sum.inr m : Key) = Sum.inr n then ((Sum.inr m : Key), V.int (x : Nat)) else (Sum.inr m, V.int (w m : Nat))) = _
  unfold putN
  by_cases e : m = n
  · subst e
    rw [if_pos rfl, if_pos rfl]
  · rw [if_neg (fun z => e (by injection z)), if_neg e]
theorem wd_get {H : Hp} {d : Addr} {B : Bk} {w : Str → Nat} (h : H d = some (.dK (WD B w))) {n : Str} (hn : n ∈ B.names) : DGet H d (.str n) (some (.int (w n : Nat))) := by
  rw [← wd_val (w := w) hn]
  exact DGet.k (k := Sum.inr n) h
abbrev rDictP (K : PySem.W.Frag) : List V → Hp → VK → Prop := fun xs H Q => ∃ (a : Addr) (ps : List Addr) (kvs : List (Key × V)), xs = [.ref a] ∧ SqL K H a (ps.map V.ref) ∧ Paired (fun p kv => SqT K H p [kV kv.1, kv.2]) ps kvs ∧ ∀ p, H p = none → Q (.ref p) (upd H p (.dK (mergeK [] kvs)))
abbrev natsV (l : List Nat) : List V := l.map fun x : Nat => V.int x
/-- max([0] + rows[i]) -/
abbrev tMx0 (K : PySem.W.Frag) (i : Int) : TE := tCB (rMax K) (tCons (tOp rCat (tLst (tCons (tC (.int 0)) tNil)) (tOp (rIxL K) (tVar 12) (tC (.int i)))) tNil)
theorem mx0_read {K : PySem.W.Frag} {σ : L2.St} {H : Hp} {Q : VK} {R r : Addr} {i : Nat} {rs : List V} {l : List Nat} (h12 : σ[12]? = some (some (.ref R))) (hR : H R = some (.lst rs)) (hr : rs[i]? = some (.ref r)) (hl : H r = some (.lst (natsV l))) (len : l.length ≤ 1000) (q : ∀ H', Same H H' → Q (.int (lmx l : Nat)) H') : tMx0 K i σ H Q := by
  have hz := sizeLine_eq
  refine ⟨by show 1 ≤ sizeLine; decide, fun Z nZ => ?_⟩
  have s1 : Same H (upd H Z (.lst [.int 0])) := same_new (Same.refl H) nZ
  have h1 : upd H Z (.lst [.int 0]) Z = some (.lst [.int 0]) := upd_same
  generalize upd H Z (.lst [.int 0]) = H1 at s1 h1
  refine ⟨_, h12, R, rs, i, .ref r, rfl, rfl, SqL.of (s1 _ _ hR), atI_nat hr, Z, r, _, _, rfl, rfl, h1, s1 _ _ hl, by rw [List.length_map]; show 1 + _ ≤ _; omega, fun u nu => ?_⟩
  have s2 := same_new (o := .lst ([V.int 0] ++ natsV l)) (Same.refl H1) nu
  refine ⟨u, (0 : Int) :: l.map fun x : Nat => (x : Int), rfl, SqL.of (by rw [upd_same, List.map_cons, List.map_map]; rfl), by rw [List.length_cons]; omega, fun mx hmx hle => ?_⟩
  rw [mx_is hmx hle]
  exact q _ (s1.trans s2)
def wOf (w0 w1 w2 : Str → Nat) : Nat → Str → Nat
  | 0 => w0
  | 1 => w1
  | _ => w2
theorem kn_filter (w : Str → Nat) : ∀ g : List Nd, (g.filter isK).map (fun n => D.int (w n.nm : Nat)) = ((kn g).map w).map fun x : Nat => D.int (x : Nat)
  | [] => rfl
  | .row r t m :: g => kn_filter w g
  | .knd n a t m :: g => by
    show D.int (w n : Nat) :: (g.filter isK).map _ = D.int (w n : Nat) :: _
    rw [kn_filter w g]
theorem kn_len : ∀ g : List Nd, (kn g).length ≤ g.length
  | [] => Nat.le_refl _
  | .row r t m :: g => Nat.le_succ_of_le (kn_len g)
  | .knd n a t m :: g => Nat.succ_le_succ (kn_len g)
/-- the middle one otherwise -/
theorem mxJ_list {w0 wo : Str → Nat} : ∀ {ns : List Str} {j : Nat} {n : Str}, ns[j]? = some n → lmx ((ns.map w0).take j ++ [wo n] ++ (ns.map w0).drop (j + 1)) = mxJ w0 wo ns j
  | x :: ns, 0, n, h => by
    cases h
    rfl
  | x :: ns, j + 1, n, h => by
    have ih := mxJ_list (w0 := w0) (wo := wo) (ns := ns) (j := j) h
    show max (w0 x) (lmx ((ns.map w0).take j ++ [wo n] ++ (ns.map w0).drop (j + 1))) = max (w0 x) (mxJ w0 wo ns j)
    rw [ih]
  | [], _, _, h => by simp at h
theorem mx_nats {l : List Nat} {m : Int} (h : m ∈ (l.map fun x : Nat => (x : Int))) (hle : ∀ x ∈ (l.map fun x : Nat => (x : Int)), x ≤ m) : m = (lmx l : Nat) := by
  obtain ⟨x, hx, rfl⟩ := List.mem_map.mp h
  have h1 := lmx_ge hx
  have h2 : lmx l ≤ x := lmx_le fun y hy => by
    have := hle y (List.mem_map.mpr ⟨y, hy, rfl⟩)
    omega
  omega
theorem keyed_of {ns : List Str} {ts : List V} {i : Nat} {ky : Key} {v : V} (h : (keyed ns ts)[i]? = some (ky, v)) : ∃ n, ns[i]? = some n ∧ ky = Sum.inr n := by
  unfold keyed at h
  rw [List.getElem?_zipWith] at h
  cases z : ns[i]? with
  | none => rw [z] at h; cases h
  | some n =>
    cases z' : ts[i]? with
    | none => rw [z, z'] at h; cases h
    | some t =>
      rw [z, z'] at h
      simp only [Option.some.injEq, Prod.mk.injEq] at h
      exact ⟨n, rfl, h.1.symm⟩
/-- the least of one number and others more by one -/
theorem newO_min {B : Bk} {st : List Str} {w0 w2 : Str → Nat} {k : Kd} {g : List Nd} {m : Int}
    (h : m ∈ ((w2 k.name : Nat) : Int) :: (((List.range (kn g).length).map fun j => mxJ w0 w2 (kn g) j) ++ (if g.any (onS st) = true then [mxL w0 g] else [])).map fun x : Nat => ((1 + x : Nat) : Int))
    (hle : ∀ y ∈ ((w2 k.name : Nat) : Int) :: (((List.range (kn g).length).map fun j => mxJ w0 w2 (kn g) j) ++ (if g.any (onS st) = true then [mxL w0 g] else [])).map fun x : Nat => ((1 + x : Nat) : Int), m ≤ y) : ∃ x : Nat, m = (x : Nat) ∧ NewO st w0 w2 k g x := by
  have hj : ∀ j nj, (kn g)[j]? = some nj → m ≤ ((1 + mxJ w0 w2 (kn g) j : Nat) : Int) := fun j nj hj => hle _ (List.mem_cons_of_mem _ (List.mem_map.mpr ⟨_, List.mem_append_left _ (List.mem_map.mpr ⟨j, List.mem_range.mpr (List.getElem?_eq_some_iff.mp hj).1, rfl⟩), rfl⟩))
  have hb : g.any (onS st) = true → m ≤ ((1 + mxL w0 g : Nat) : Int) := fun hb => hle _ (List.mem_cons_of_mem _ (List.mem_map.mpr ⟨_, List.mem_append_right _ (by rw [if_pos hb]; exact List.mem_singleton.mpr rfl), rfl⟩))
  have h0 := hle _ List.mem_cons_self
  have mk : ∀ x : Nat, m = (x : Nat) → (x = w2 k.name ∨ (g.any (onS st) = true ∧ x = 1 + mxL w0 g) ∨ ∃ j nj, (kn g)[j]? = some nj ∧ x = 1 + mxJ w0 w2 (kn g) j) → ∃ x : Nat, m = (x : Nat) ∧ NewO st w0 w2 k g x := fun x e one =>
    ⟨x, e, ⟨by omega, fun q => by have := hb q; omega, fun j nj q => by have := hj j nj q; omega, one⟩⟩
  rcases List.mem_cons.mp h with e | e
  · exact mk _ e (.inl rfl)
  · obtain ⟨x, hx, e⟩ := List.mem_map.mp e
    refine mk _ e.symm ?_
    rcases List.mem_append.mp hx with hx | hx
    · obtain ⟨j, hj', rfl⟩ := List.mem_map.mp hx
      have jl := List.mem_range.mp hj'
      exact .inr (.inr ⟨j, _, List.getElem?_eq_getElem jl, rfl⟩)
    · by_cases hb' : g.any (onS st) = true
      · rw [if_pos hb', List.mem_singleton] at hx
        exact .inr (.inl ⟨hb', by rw [hx]⟩)
      · rw [if_neg hb'] at hx
        cases hx
theorem rp_natL {K : PySem.W.Frag} {H : Hp} : ∀ {l : List Nat} {ys : List V}, RpAll K H ys (l.map fun x : Nat => D.int (x : Nat)) → ys = natsV l
  | [], _, .nil => rfl
  | x :: l, _, .cons r rs => by
    cases r
    rw [rp_natL rs]
    rfl
theorem nats_at {l : List Nat} {i : Nat} {x : Nat} (h : l[i]? = some x) : (natsV l)[i]? = some (V.int (x : Nat)) := by
  unfold natsV
  rw [List.getElem?_map, h]
  rfl
abbrev sLeast : Stmt := top 53
def spLeast (K : PySem.W.Frag) : Sp := fun vs H Q _ => ∃ (p S dl : Addr) (B : Bk) (st : List Str), vs = [.ref p, .ref S, .ref dl] ∧ Rp K H (.ref p) B.d ∧ BOk B ∧ SqQ H S (st.map V.str) ∧ KL H dl B ∧
  ∀ (F0 d0 d1 d2 : Addr) (H' : Hp), Same H H' → H' F0 = some (.lst [.ref d0, .ref d1, .ref d2]) → H' d1 = some (.dK (WD B (L1 B st))) → H' d2 = some (.dK (WD B (LO B st))) → Q (.ref F0) H'
abbrev NL : List Str := ["_law_rulebook_here", "_law_struck", "_law_live_here", "_law_kinds", "_law_found", "_law_name", "_law_k", "_law_turn", "_law_index", "_law_ground_here", "_law_bad", "_law_need_here", "_law_rows", "_law_olds", "_law_j", "_law_many"]
section
variable {P : Program} {w : World} {K : PySem.W.Frag} {mg : Str → Option Value} {base : Heap}
theorem scLeast : FnScope NL ["_law_rulebook_here", "_law_struck", "_law_live_here"] (defScope sLeast) := ⟨rfl, rfl, rfl, by decide +kernel, rfl, by decide +kernel, by decide +kernel⟩
theorem ok_least {f : Addr} {fd : FuncData} (F : Fun K "_law_least_levels" "_law_least_levels" sLeast f fd) (zd : mg "dict" = none) (zr : mg "range" = none) (zl : mg "len" = none) (zs : mg "sorted" = none) (zx : mg "max" = none) (zn : mg "min" = none) (zi : mg "int" = none) (CK : Cal P w K mg base 1 "_law_kinds_of" ["_law_rulebook_here"] (spKindsOf K)) : FnOk P w K mg base CX0 2 f fd ["_law_rulebook_here", "_law_struck", "_law_live_here"] (spLeast K) := by
  refine F.ok scLeast (fun vs H Q E h => ?_) (fun cdv A outer s H vs Q E hr h => ?_)
  · obtain ⟨p, S, dl, B, st, rfl, _⟩ := h
    rfl
  · obtain ⟨p, S, dl, B, st, rfl, rp, ok, hS, kl, kQ⟩ := h
    have nd := scLeast.nd
    have hu := hr.units
    have hu0 := hu_of hr
    have hz := sizeLine_eq
    refine ⟨_, pss_cons (ps_set (i := 3) nd rfl (Or.inr rfl) (pe_cal CK hr rfl (pa_cons (pv 0) pa_nil)))
      (pss_cons (ps_set (i := 4) nd rfl (Or.inr rfl) (pe_lc (own := [("_law_k", 6)]) (g := gName 6) (tt := tYes) (te := tCB (rDictP K) (tCons (tLockE (tLc (iKeys (tVar 3)) (gName 5) tYes (tTup (tCons (tVar 5) (tCons (tC (.int 99)) tNil))) [5])) tNil)) rfl nd (pi_range1 (by rfl) zr (pa_cons pe_int pa_nil))
          (blkOk_by (own := [("_law_k", 6)]) (N := NL) (sc := defScope sLeast) (by decide +kernel)) (fun _ _ _ _ _ => pg_name (i := 6) nd rfl (Or.inl rfl)) (fun _ _ _ _ _ => pts_nil)
          (fun _ _ _ _ _ => pe_callTy (call_dictP rfl) (by rfl) zd (by decide +kernel) (pa_cons (pe_lock (pe_lc (own := [("_law_name", 5)]) (g := gName 5) (tt := tYes) (te := tTup (tCons (tVar 5) (tCons (tC (.int 99)) tNil))) rfl nd (pi_keys (pv 3)) (blkOk_by (by rfl)) (fun _ _ _ _ _ => pg_name (i := 5) nd rfl (Or.inl rfl)) (fun _ _ _ _ _ => pts_nil) (fun _ _ _ _ _ => pe_tup (pa_cons (pv 5) (pa_cons pe_int pa_nil))))) pa_nil))))
      (pss_cons (ps_for PassesOwn.never rfl (pi_range1 (by rfl) zr (pa_cons (pe_op op_mul pe_int (pe_callB call_lenD (by rfl) zl PySem.boot_len (pa_cons (pv 3) pa_nil))) pa_nil)) (pg_name (i := 7) nd rfl (Or.inl rfl))
        (pss_one (ps_for PassesOwn.never rfl (pi_list (pe_callB (call_sortedD rfl) (by rfl) zs (by decide +kernel) (pa_cons (pv 3) pa_nil))) (pg_name (i := 5) nd rfl (Or.inl rfl))
          (pss_one (ps_for PassesOwn.never rfl (pi_list (pe_dget hu0 (pv 2) (pv 5) (fun _ _ => rfl))) (pg_name (i := 8) nd rfl (Or.inl rfl))
            (pss_cons (ps_set (i := 9) nd rfl (Or.inr rfl) (pe_ix ix_tup (pe_ix ix_tup (pe_dget hu0 (pv 3) (pv 5) (fun _ _ => rfl)) pe_int (fun _ _ => rfl)) (pv 8) (fun _ _ => rfl)))
            (pss_cons (ps_setLc (i := 10) (own := [("_law_need_here", 11)]) (g := gName 11) (tt := tAnd (tTest (tOp rEq (tOp (rIxT K) (tVar 11) (tC (.int 0))) (tC (.str "row")))) (tTest (tOp (rIn K false) (tOp (rIxT K) (tVar 11) (tC (.int 1))) (tVar 1)))) (te := tVar 11) rfl nd rfl rfl (sw_true rfl rfl rfl (by decide +kernel)) (pi_tup (pv 9))
              (blkOk_by (own := [("_law_need_here", 11)]) (N := NL) (sc := defScope sLeast) (by decide +kernel)) (fun _ _ _ _ _ => pg_name (i := 11) nd rfl (Or.inl rfl))
              (fun _ _ _ _ _ => pts_one (PW.pt (pw_and (pt_cmpR op_eq (pe_ix ix_tup (pv 11) pe_int (fun _ _ => rfl)) pe_str (nomark _)) (pw_and1 (pt_cmpR op_in_seq (pe_ix ix_tup (pv 11) pe_int (fun _ _ => rfl)) (pv 1) (by rfl)))))) (fun _ _ _ _ _ => pv 11))
            (pss_cons (ps_set (i := 12) nd rfl (Or.inr rfl) (pe_lc (own := [("_law_k", 6)]) (g := gName 6) (tt := tYes) (te := tLc (iTup K (tVar 9)) (gName 11) (tTest (tOp rEq (tOp (rIxT K) (tVar 11) (tC (.int 0))) (tC (.str "kind")))) (tDGet (tOp (rIxL K) (tVar 4) (tVar 6)) (tOp (rIxT K) (tVar 11) (tC (.int 1)))) [11]) rfl nd (pi_range1 (by rfl) zr (pa_cons pe_int pa_nil))
              (blkOk_by (own := [("_law_k", 6)]) (N := NL) (sc := defScope sLeast) (by decide +kernel)) (fun _ _ _ _ _ => pg_name (i := 6) nd rfl (Or.inr rfl)) (fun _ _ _ _ _ => pts_nil)
              (fun _ _ _ _ _ => pe_lc (own := [("_law_need_here", 11)]) (g := gName 11) (tt := tTest (tOp rEq (tOp (rIxT K) (tVar 11) (tC (.int 0))) (tC (.str "kind")))) (te := tDGet (tOp (rIxL K) (tVar 4) (tVar 6)) (tOp (rIxT K) (tVar 11) (tC (.int 1)))) rfl nd (pi_tup (pv 9)) (blkOk_by (by rfl)) (fun _ _ _ _ _ => pg_name (i := 11) nd rfl (Or.inl rfl))
                (fun _ _ _ _ _ => pts_one (pt_cmpR op_eq (pe_ix ix_tup (pv 11) pe_int (fun _ _ => rfl)) pe_str (nomark _))) (fun _ _ _ _ _ => pe_dget hu0 (pe_ix ix_list (pv 4) (pv 6) (fun _ _ => rfl)) (pe_ix ix_tup (pv 11) pe_int (fun _ _ => rfl)) (fun _ _ => rfl)))))
            (pss_cons (ps_asg (pe_callB (call_min2 rfl) (by rfl) zn (by decide +kernel) (pa_cons (pe_dget hu0 (pe_ix ix_list (pv 4) pe_int (fun _ _ => rfl)) (pv 5) (fun _ _ => rfl)) (pa_cons (pe_op op_add pe_int (pe_callB (cr_max rfl) (by rfl) zx (by decide +kernel) (pa_cons (pe_op op_cat (pe_lst (pa_cons pe_int pa_nil)) (pe_ix ix_list (pv 12) pe_int (fun _ _ => rfl))) pa_nil))) pa_nil))) (pg_sub (pe_ix ix_list (pv 4) pe_int (fun _ _ => rfl)) (pv 5) (set_dict hu0)))
            (C8.pss_cut (ps_if (pt_cmpR (op_eqD hu) (pv 10) (pe_lst pa_nil) (nomark _))
              (pss_one (ps_asg (pe_callB (call_min2 rfl) (by rfl) zn (by decide +kernel) (pa_cons (pe_dget hu0 (pe_ix ix_list (pv 4) pe_int (fun _ _ => rfl)) (pv 5) (fun _ _ => rfl)) (pa_cons (pe_op op_add pe_int (pe_callB (cr_max rfl) (by rfl) zx (by decide +kernel) (pa_cons (pe_op op_cat (pe_lst (pa_cons pe_int pa_nil)) (pe_ix ix_list (pv 12) pe_int (fun _ _ => rfl))) pa_nil))) pa_nil))) (pg_sub (pe_ix ix_list (pv 4) pe_int (fun _ _ => rfl)) (pv 5) (set_dict hu0)))) pss_nil)
            (pss_cons (ps_setLc (i := 13) (own := [("_law_j", 14)]) (g := gName 14) (tt := tYes) (te := tCB (rMax K) (tCons (tOp rCat (tOp rCat (tSl (rSlL K) (tOp (rIxL K) (tVar 12) (tC (.int 0))) tNoPart (tPart (tVar 14))) (tLst (tCons (tOp (rIxL K) (tOp (rIxL K) (tVar 12) (tC (.int 2))) (tVar 14)) tNil))) (tSl (rSlL K) (tOp (rIxL K) (tVar 12) (tC (.int 0))) (tPart (tOp (rI0 fun i j => .int (i + j)) (tVar 14) (tC (.int 1)))) tNoPart)) tNil)) rfl nd rfl rfl (sw_true rfl rfl rfl (by decide +kernel)) (pi_range1 (by rfl) zr (pa_cons (pe_callB call_len_seq (by rfl) zl PySem.boot_len (pa_cons (pe_ix ix_list (pv 12) pe_int (fun _ _ => rfl)) pa_nil)) pa_nil))
              (blkOk_by (own := [("_law_j", 14)]) (N := NL) (sc := defScope sLeast) (by decide +kernel)) (fun _ _ _ _ _ => pg_name (i := 14) nd rfl (Or.inl rfl)) (fun _ _ _ _ _ => pts_nil)
              (fun _ _ _ _ _ => pe_callB (cr_max rfl) (by rfl) zx (by decide +kernel) (pa_cons (pe_op op_cat (pe_op op_cat (pe_slice sl_list (pe_ix ix_list (pv 12) pe_int (fun _ _ => rfl)) po_none (po_some (pv 14))) (pe_lst (pa_cons (pe_ix ix_list (pe_ix ix_list (pv 12) pe_int (fun _ _ => rfl)) (pv 14) (fun _ _ => rfl)) pa_nil))) (pe_slice sl_list (pe_ix ix_list (pv 12) pe_int (fun _ _ => rfl)) (po_some (pe_op op_add (pv 14) pe_int)) po_none)) pa_nil)))
            (pss_cons (ps_set (i := 13) nd rfl (Or.inl rfl) (pe_op op_cat (pv 13) (pe_op op_rep (pe_lst (pa_cons (pe_callB (cr_max rfl) (by rfl) zx (by decide +kernel) (pa_cons (pe_op op_cat (pe_lst (pa_cons pe_int pa_nil)) (pe_ix ix_list (pv 12) pe_int (fun _ _ => rfl))) pa_nil)) pa_nil)) (pe_callTy call_int1 (by rfl) zi (by decide +kernel) (pa_cons (pe_cmpR (op_neD hu) (pv 10) (pe_lst pa_nil) (nomark _)) pa_nil)))))
            (pss_one (ps_asg (pe_callB (cr_min rfl) (by rfl) zn (by decide +kernel) (pa_cons (pe_op op_cat (pe_lst (pa_cons (pe_dget hu0 (pe_ix ix_list (pv 4) pe_int (fun _ _ => rfl)) (pv 5) (fun _ _ => rfl)) pa_nil)) (pe_lc (own := [("_law_many", 15)]) (g := gName 15) (tt := tYes) (te := tOp (rI0 fun i j => .int (i + j)) (tC (.int 1)) (tVar 15)) rfl nd (pi_list (pv 13))
              (blkOk_by (own := [("_law_many", 15)]) (N := NL) (sc := defScope sLeast) (by decide +kernel)) (fun _ _ _ _ _ => pg_name (i := 15) nd rfl (Or.inl rfl)) (fun _ _ _ _ _ => pts_nil) (fun _ _ _ _ _ => pe_op op_add pe_int (pv 15)))) pa_nil)) (pg_sub (pe_ix ix_list (pv 4) pe_int (fun _ _ => rfl)) (pv 5) (set_dict hu0))))))))))))))))
      (pss_one (ps_ret (pv 4))))), ?_⟩
    have lb := ok.len
    have lnm : B.names.length = B.kinds.length := by unfold Bk.names; rw [List.length_map]
    refine ⟨_, rfl, p, B, rfl, rp, ok, fun kd H1 kts s1 nkd hkd rkts => ?_⟩
    have lts : B.names.length = kts.length := by rw [rkts.len, List.length_map, lnm]
    have lkd : (keyed B.names kts).length = B.kinds.length := by rw [keyed_len lts, lnm]
    have kd1 : KDT K H1 kd B := ⟨kts, .inl hkd, rkts⟩
    have kl1 := kl.same s1
    have hS1 := hS.same s1
    try dsimp only
    show tAsg _ _ _ [some (.ref p), some (.ref S), some (.ref dl), some (.ref kd), none, none, none, none, none, none, none, none, none, none, none, none] H1
    refine ⟨3, rfl, by decide, by decide, fun Fo nFo => ?_⟩
    refine lc_it (walk_range (lo := 0) (n := (3 : Int).toNat)) (fun q H' => Same H1 H' ∧ ∃ ds : List Addr, H' Fo = some (.lst (ds.map V.ref)) ∧ ds.length = q ∧ ds.Nodup ∧ ∀ a ∈ ds, H' a = some (.dK (WD B fun _ => 99)) ∧ H1 a = none)
      ⟨same_put (Same.refl H1) nFo, [], upd_same, rfl, List.nodup_nil, fun a h => by cases h⟩ (fun _ _ _ _ => trivial) ?_ ?_
    · rintro q x H5' H5 hq ⟨s5, ds, hF5, lds, ndd, hds⟩ ⟨rfl, rfl⟩
      have hkd5 := s5 _ _ hkd
      refine ⟨rfl, tyes_go ⟨kd, _, hkd5, trivial, fun od => ?_⟩⟩
      have hdL : upd H5 kd (.frz od (.dK (keyed B.names kts))) kd = some (.frz od (.dK (keyed B.names kts))) := upd_same
      have eL : ∀ a o, a ≠ kd → H5 a = some o → upd H5 kd (.frz od (.dK (keyed B.names kts))) a = some o := fun a o ne h => by rw [upd_ne ne]; exact h
      generalize upd H5 kd (.frz od (.dK (keyed B.names kts))) = HL at hdL eL
      refine ⟨_, rfl, kd, od, rfl, .inl ⟨_, hdL, fun Dy nDy => ?_⟩⟩
      refine lc_it (walk_keys (kvs := keyed B.names kts)) (fun j H' => Same HL H' ∧ ∃ ps : List Addr, H' Dy = some (.lst (ps.map V.ref)) ∧ ps.length = j ∧ Paired (fun p kv => H' p = some (.tup [kV kv.1, kv.2])) ps ((WD B fun _ => 99).take j))
        ⟨same_put (Same.refl HL) nDy, [], upd_same, rfl, .nil⟩ (fun i H' _ z => z.1 _ _ hdL) ?_ ?_
      · rintro j x Hz H6 hj ⟨s6, ps, hDy, lps, pr⟩ ⟨rfl, ky, vv, hkv, rfl⟩
        obtain ⟨n, hn, rfl⟩ := keyed_of hkv
        have hw : (WD B fun _ => 99)[j]? = some ((Sum.inr n : Key), V.int (99 : Nat)) := by
          unfold WD
          rw [List.getElem?_map, hn]
          rfl
        have jl := (List.getElem?_eq_some_iff.mp hn).1
        refine ⟨rfl, tyes_go ⟨_, rfl, by show 2 ≤ sizeLine; decide, fun t nt => ?_⟩⟩
        have s1' : Same H6 (upd H6 t (.tup [kV (Sum.inr n), .int (99 : Nat)])) := same_new (Same.refl H6) nt
        have h1' : upd H6 t (.tup [kV (Sum.inr n), .int (99 : Nat)]) t = some (.tup [kV (Sum.inr n), .int (99 : Nat)]) := upd_same
        show ∃ _, _
        generalize upd H6 t (.tup [kV (Sum.inr n), .int (99 : Nat)]) = H7 at s1' h1'
        have hD7 := s1' _ _ hDy
        have T3 : Tups H7 (upd H7 Dy (.lst (ps.map V.ref ++ [.ref t]))) := Tups.put hD7
        refine ⟨ps.map V.ref, hD7, by rw [List.length_map, lps]; omega, same_put (s6.trans s1') nDy, ps ++ [t], by rw [upd_same, List.map_append]; rfl, by rw [List.length_append, lps]; rfl, ?_⟩
        rw [List.take_succ, hw]
        exact Paired.snoc (Paired.mapP pr fun p kv h => T3 _ _ (s1' _ _ h)) (T3 _ _ h1')
      · rintro H6 ⟨s6, ps, hDy, lps, pr⟩
        have lw : (WD B fun _ => 99).length = (keyed B.names kts).length := by unfold WD; rw [List.length_map, lkd, lnm]
        rw [← lw, List.take_length] at pr
        have hk6 := s6 _ _ hdL
        have neK : ∀ {a : Addr} {o : HO}, H6 a = some o → o ≠ .frz od (.dK (keyed B.names kts)) → a ≠ kd := fun h hne z => by
          rw [z, hk6] at h
          exact hne (Option.some.inj h).symm
        have s57 : Same H5 (upd H6 kd (.dK (keyed B.names kts))) := fun a o h => by
          by_cases z : a = kd
          · rw [z, hkd5] at h
            rw [z, upd_same, h]
          · rw [upd_ne z]
            exact s6 _ _ (eL a o z h)
        have hDy7 : upd H6 kd (.dK (keyed B.names kts)) Dy = some (.lst (ps.map V.ref)) := by
          rw [upd_ne (neK hDy fun z => nomatch z)]
          exact hDy
        have pr7 : Paired (fun p kv => upd H6 kd (.dK (keyed B.names kts)) p = some (.tup [kV kv.1, kv.2])) ps (WD B fun _ => 99) := Paired.mapP pr fun p kv h => by
          rw [upd_ne (neK h fun z => nomatch z)]
          exact h
        refine ⟨hk6, ?_⟩
        generalize upd H6 kd (.dK (keyed B.names kts)) = H7 at s57 hDy7 pr7
        refine ⟨Dy, ps, WD B fun _ => 99, rfl, SqL.of hDy7, Paired.mapP pr7 fun p kv h => SqT.of h, fun Fd nF => ?_⟩
        have ndw : ((WD B fun _ => 99).map (·.1)).Nodup := by
          unfold WD
          rw [List.map_map]
          exact List.Pairwise.map _ (fun a b hne e => hne (by injection e)) ok.names.nd
        rw [merge_nodup _ [] (by simpa using ndw), List.nil_append]
        have s8 : Same H7 (upd H7 Fd (.dK (WD B fun _ => 99))) := same_new (Same.refl H7) nF
        have h8 : upd H7 Fd (.dK (WD B fun _ => 99)) Fd = some (.dK (WD B fun _ => 99)) := upd_same
        have s58 := s57.trans s8
        have hF8 := s58 _ _ hF5
        have ndF : Fd ∉ ds := fun z => by
          have := s57 _ _ (hds Fd z).1
          rw [nF] at this
          cases this
        have neF : ∀ {a : Addr} {kvs : List (Key × V)}, upd H7 Fd (.dK (WD B fun _ => 99)) a = some (.dK kvs) → a ≠ Fo := fun h z => by
          rw [z, hF8] at h
          cases h
        refine ⟨ds.map V.ref, hF8, by rw [List.length_map, lds]; have : q < 3 := hq; omega, same_put (s5.trans s58) nFo, ds ++ [Fd], by rw [upd_same, List.map_append]; rfl, by rw [List.length_append, lds]; rfl, ?_, fun a ha => ?_⟩
        · rw [List.nodup_append]
          exact ⟨ndd, List.nodup_cons.mpr ⟨List.not_mem_nil, List.nodup_nil⟩, fun a ha b hb z => by rw [List.mem_singleton.mp hb] at z; exact ndF (z ▸ ha)⟩
        · rcases List.mem_append.mp ha with ha | ha
          · have e := s58 _ _ (hds a ha).1
            exact ⟨by rw [upd_ne (neF e)]; exact e, (hds a ha).2⟩
          · rw [List.mem_singleton.mp ha]
            exact ⟨by rw [upd_ne (neF h8)]; exact h8, (s5.trans s57).free nF⟩
    rintro H6 ⟨s6, ds, hF6, lds, ndd, hds⟩
    obtain ⟨d0, d1, d2, rfl⟩ : ∃ d0 d1 d2, ds = [d0, d1, d2] := by
      match ds, lds with
      | [a, b, c], _ => exact ⟨a, b, c, rfl⟩
    obtain ⟨h60, n0⟩ := hds d0 (by simp)
    obtain ⟨h61, n1⟩ := hds d1 (by simp)
    obtain ⟨h62, n2⟩ := hds d2 (by simp)
    have e01 : d0 ≠ d1 := fun z => by simp [z] at ndd
    have e02 : d0 ≠ d2 := fun z => by simp [z] at ndd
    have e12 : d1 ≠ d2 := fun z => by simp [z] at ndd
    have hF6 : H6 Fo = some (.lst [.ref d0, .ref d1, .ref d2]) := hF6
    clear hds ndd lds
    try dsimp only
    show tSeq _ _ _ [some (.ref p), some (.ref S), some (.ref dl), some (.ref kd), some (.ref Fo), none, none, none, none, none, none, none, none, none, none, none] H6
    -- at is a dict d of numbers w, not a list
    have nL : ∀ {Hx : Hp} {a d : Addr} {xs : List V} {kvs : List (Key × V)}, Hx a = some (.lst xs) → Hx d = some (.dK kvs) → a ≠ d := fun h h' z => by
      rw [z, h'] at h
      cases h
    refine ⟨_, rfl, kd, _, rfl, s6 _ _ hkd, 3, ((keyed B.names kts).length : Nat), rfl, rfl, .inl ⟨by decide, by decide⟩, _, rfl, by omega, by omega, for_it (walk_range (lo := 0) (n := (3 * (((keyed B.names kts).length : Nat) : Int)).toNat)) (fun i σ' H' => (∃ x5 x7 x8 x9 x10 x12 x13, σ' = [some (.ref p), some (.ref S), some (.ref dl), some (.ref kd), some (.ref Fo), x5, none, x7, x8, x9, x10, none, x12, x13, none, none]) ∧ Same H1 H' ∧ H' Fo = some (.lst [.ref d0, .ref d1, .ref d2]) ∧ ∃ w0 w1 w2, H' d0 = some (.dK (WD B w0)) ∧ H' d1 = some (.dK (WD B w1)) ∧ H' d2 = some (.dK (WD B w2)) ∧ WOk B st i w0 w1 w2)
      ⟨⟨_, _, _, _, _, _, _, rfl⟩, s6, hF6, _, _, _, h60, h61, h62, WOk.start B st⟩ (fun _ _ _ _ _ => trivial) ?_ ?_⟩
    · rintro i x σ' H8' H8 hi ⟨⟨x5, x7, x8, x9, x10, x12, x13, rfl⟩, s8, hF8, w0, w1, w2, h80, h81, h82, wk⟩ ⟨rfl, rfl⟩
      have il : i + 1 < 99 := by omega
      refine ⟨_, rfl, kd, _, B.names, rfl, .inl (s8 _ _ hkd), keyed_keys lts, by omega, fun ys W py sy nW => ?_⟩
      have ey : ys = B.names := sorted_one sy ok.names.asc py
      subst ey
      have s9 : Same H8 (upd H8 W (.lst (B.names.map V.str))) := same_new (Same.refl H8) nW
      have h9 : upd H8 W (.lst (B.names.map V.str)) W = some (.lst (B.names.map V.str)) := upd_same
      generalize upd H8 W (.lst (B.names.map V.str)) = H9 at s9 h9
      refine ⟨W, rfl, ⟨_, SqL.of h9⟩, for_list (xs := B.names.map V.str) (fun j σ' H' => (∃ x5 x8 x9 x10 x12 x13, σ' = [some (.ref p), some (.ref S), some (.ref dl), some (.ref kd), some (.ref Fo), x5, none, some (.int (0 + (i : Int))), x8, x9, x10, none, x12, x13, none, none]) ∧ Same H1 H' ∧ H' Fo = some (.lst [.ref d0, .ref d1, .ref d2]) ∧ H' W = some (.lst (B.names.map V.str)) ∧ ∃ w0 w1 w2, H' d0 = some (.dK (WD B w0)) ∧ H' d1 = some (.dK (WD B w1)) ∧ H' d2 = some (.dK (WD B w2)) ∧ SWT B st i (dn2 B j) w0 w1 w2)
        ⟨⟨_, _, _, _, _, _, rfl⟩, s8.trans s9, s9 _ _ hF8, h9, w0, w1, w2, s9 _ _ h80, s9 _ _ h81, s9 _ _ h82, SWT.start wk⟩ (fun j σ' H' _ z => SqL.of z.2.2.2.1) ?_ ?_⟩
      · rintro j x σ' H10 hj ⟨⟨x5, x8, x9, x10, x12, x13, rfl⟩, s10, hF10, hW10, w0, w1, w2, h0, h1, h2, sw⟩
        obtain ⟨k, hkj, rfl⟩ := name_at hj
        have hk := List.mem_of_getElem? hkj
        have knm : k.name ∈ B.names := List.mem_map_of_mem hk
        obtain ⟨la, hget, hla⟩ := kl1.get ok hk
        have lg4 := (ok.kinds k hk).len
        obtain ⟨la', hget', hla'⟩ := (kl1.same s10).get ok hk
        refine ⟨_, rfl, _, rfl, dl, .ref la', rfl, hget', la', rfl, ⟨_, SqL.of hla'⟩, for_list (xs := (liveL B B.bear k.gs).map fun i : Nat => V.int i) (fun m σ' H' => (∃ x8 x9 x10 x12 x13, σ' = [some (.ref p), some (.ref S), some (.ref dl), some (.ref kd), some (.ref Fo), some (.str k.name), none, some (.int (0 + (i : Int))), x8, x9, x10, none, x12, x13, none, none]) ∧ Same H1 H' ∧ H' Fo = some (.lst [.ref d0, .ref d1, .ref d2]) ∧ H' W = some (.lst (B.names.map V.str)) ∧ H' la' = some (.lst ((liveL B B.bear k.gs).map fun i : Nat => V.int i)) ∧ ∃ w0 w1 w2, H' d0 = some (.dK (WD B w0)) ∧ H' d1 = some (.dK (WD B w1)) ∧ H' d2 = some (.dK (WD B w2)) ∧ SWT B st i (dn3 B j k ((liveL B B.bear k.gs).take m)) w0 w1 w2)
          ⟨⟨_, _, _, _, _, rfl⟩, s10, hF10, hW10, hla', w0, w1, w2, h0, h1, h2, SWT.in sw⟩ (fun m σ' H' _ z => SqL.of z.2.2.2.2.1) ?_ ?_⟩
        · rintro m x σ' H11 hm ⟨⟨x8, x9, x10, x12, x13, rfl⟩, s11, hF11, hW11, hla11, w0, w1, w2, h0, h1, h2, sw⟩
          obtain ⟨t, ht, rfl⟩ := nat_at hm
          obtain ⟨g, hg, mg'⟩ := live_mem (List.mem_of_getElem? ht)
          obtain ⟨tv, htv, rtv⟩ := (kd1.same s11).get ok hk
          obtain ⟨ta, tg, tgs, rfl, hta, htg, rtg⟩ := Kd.rp_tl rtv
          obtain ⟨gv, hgv, rgv⟩ := at_to rtg hg
          have okg := (ok.kinds k hk).gs g (List.mem_of_getElem? hg)
          obtain ⟨ga, nvs, rfl, hga, rn⟩ := gd_rp rgv
          have ln : nvs.length = g.length := by rw [rn.len, List.length_map]
          have l3 := okg.len
          have lkn := kn_len g
          have hS11 := hS1.same s11
          refine ⟨_, rfl, _, rfl, kd, .ref ta, rfl, htv, ta, _, 2, .ref tg, rfl, rfl, SqT.of hta, atI_nat (j := 2) rfl, _, rfl, tg, _, t, .ref ga, rfl, rfl, SqT.of htg, atI_nat hgv, ?_⟩
          try dsimp only
          show tSeq _ _ _ [some (.ref p), some (.ref S), some (.ref dl), some (.ref kd), some (.ref Fo), some (.str k.name), none, some (.int (0 + (i : Int))), some (.int t), some (.ref ga), x10, none, x12, x13, none, none] H11
          refine ⟨_, rfl, ga, rfl, ⟨_, SqT.of hga⟩, fun Mb nMb => ?_⟩
          refine lc_filt (K := K) (walk_tup (xs := nvs)) g (onS st) Nd.d ln.symm nd_flat nMb (by omega) (fun H' s => SqT.of (s _ _ hga)) ?_ ?_
          · rintro q n x H12 H13 R Q' hq hn s12 ⟨rfl, hx⟩ kR kQ'
            obtain ⟨n', hn', rx⟩ := at_of rn hx
            have en : n = n' := by rw [hn] at hn'; exact Option.some.inj hn'
            subst en
            have rx12 := rx.same s12
            obtain ⟨u, rfl, hu'⟩ := nd_rp rx12
            refine ⟨rfl, _, rfl, u, _, 0, .str n.word, rfl, rfl, SqT.of hu', atI_nat (j := 0) (vs0 n), rfl, _, rfl, ?_⟩
            rw [isrow]
            cases n with
            | row r t' m' =>
              refine iteT ⟨_, rfl, u, _, 1, .str r, rfl, rfl, SqT.of hu', atI_nat (j := 1) rfl, _, rfl, in_read (neg := false) (hS11.same s12) ⟨_, rfl, ?_⟩⟩
              show if decide (r ∈ st) = true then _ else _
              refine ite2 (fun e => ?_) fun e => ?_
              · exact ⟨_, rfl, kQ' _ _ (Same.refl _) e rx12⟩
              · exact kR _ (Same.refl _) (by simpa [onS] using e)
            | knd r a' t' m' => exact iteF (iteF (kR _ (Same.refl _) rfl))
          · intro H12 bys s12 hMb rMb
            have hga12 := s12 _ _ hga
            have rn12 := RpAll.same s12 rn
            try dsimp only
            show tSeq _ _ _ [some (.ref p), some (.ref S), some (.ref dl), some (.ref kd), some (.ref Fo), some (.str k.name), none, some (.int (0 + (i : Int))), some (.int t), some (.ref ga), some (.ref Mb), none, x12, x13, none, none] H12
            refine ⟨3, rfl, by decide, by decide, fun R nR => ?_⟩
            refine lc_it (walk_range (lo := 0) (n := (3 : Int).toNat)) (fun q H' => Same H12 H' ∧ ∃ rs : List Addr, H' R = some (.lst (rs.map V.ref)) ∧ rs.length = q ∧ ∀ i a, rs[i]? = some a → a ≠ R ∧ H' a = some (.lst (natsV ((kn g).map (wOf w0 w1 w2 i)))))
              ⟨same_put (Same.refl H12) nR, [], upd_same, rfl, fun i a h => by simp at h⟩ (fun _ _ _ _ => trivial) ?_ ?_
            · rintro q x Hz H13 hq ⟨s13, rs, hR13, lrs, hrs⟩ ⟨rfl, rfl⟩
              have ez : (0 : Int) + (q : Int) = (q : Nat) := Int.zero_add _
              try dsimp only
              rw [ez]
              have s1_13 := (s11.trans s12).trans s13
              have hF13 := (s12.trans s13) _ _ hF11
              obtain ⟨dq, hdq, hq13⟩ : ∃ dq, ([V.ref d0, V.ref d1, V.ref d2] : List V)[q]? = some (.ref dq) ∧ H13 dq = some (.dK (WD B (wOf w0 w1 w2 q))) := by
                match q, hq with
                | 0, _ => exact ⟨d0, rfl, (s12.trans s13) _ _ h0⟩
                | 1, _ => exact ⟨d1, rfl, (s12.trans s13) _ _ h1⟩
                | 2, _ => exact ⟨d2, rfl, (s12.trans s13) _ _ h2⟩
              refine ⟨rfl, tyes_go ⟨_, rfl, ga, rfl, ⟨_, SqT.of (s13 _ _ hga12)⟩, fun Di nDi => ?_⟩⟩
              refine lc_filt (K := K) (walk_tup (xs := nvs)) g isK (fun n => D.int (wOf w0 w1 w2 q n.nm : Nat)) ln.symm (fun _ => rfl) nDi (by omega) (fun H' s => SqT.of (s _ _ (s13 _ _ hga12))) ?_ ?_
              · rintro q' n x H14 Hz2 R' Q' hq' hn s14 ⟨rfl, hx⟩ kR kQ'
                obtain ⟨n', hn', rx⟩ := at_of rn12 hx
                have en : n = n' := by rw [hn] at hn'; exact Option.some.inj hn'
                subst en
                have rx14 := rx.same (s13.trans s14)
                obtain ⟨u, rfl, hu'⟩ := nd_rp rx14
                refine ⟨rfl, _, rfl, u, _, 0, .str n.word, rfl, rfl, SqT.of hu', atI_nat (j := 0) (vs0 n), rfl, _, rfl, ?_⟩
                rw [iskind]
                cases n with
                | row r t' m' => exact iteF (kR _ (Same.refl _) rfl)
                | knd r a' t' m' =>
                  have hr' := (okg.ok _ (List.mem_of_getElem? hn)).1
                  exact iteT ⟨_, rfl, _, rfl, Fo, _, q, .ref dq, rfl, rfl, SqL.of (s14 _ _ hF13), atI_nat hdq, _, rfl, u, _, 1, .str r, rfl, rfl, SqT.of hu', atI_nat (j := 1) rfl, dq, _, rfl, wd_get (s14 _ _ hq13) hr', kQ' _ _ (Same.refl _) rfl (.int _)⟩
              · intro H14 ys s14 hDi rDi
                rw [kn_filter] at rDi
                have ey := rp_natL rDi
                subst ey
                have hR14 := s14 _ _ hR13
                have DR : Di ≠ R := fun z => by rw [z, hR13] at nDi; cases nDi
                refine ⟨rs.map V.ref, hR14, by rw [List.length_map, lrs]; have : q < 3 := hq; omega, same_put (s13.trans s14) nR, rs ++ [Di], by rw [upd_same, List.map_append]; rfl, by rw [List.length_append, lrs]; rfl, fun i' a hi' => ?_⟩
                by_cases hlt : i' < rs.length
                · rw [List.getElem?_append_left hlt] at hi'
                  obtain ⟨q1, q2⟩ := hrs i' a hi'
                  exact ⟨q1, by rw [upd_ne q1]; exact s14 _ _ q2⟩
                · have ij : i' = rs.length := by
                    have := (List.getElem?_eq_some_iff.mp hi').1
                    rw [List.length_append, List.length_singleton] at this
                    omega
                  subst ij
                  rw [List.getElem?_append_right (Nat.le_refl _), Nat.sub_self] at hi'
                  cases hi'
                  exact ⟨DR, by rw [upd_ne DR, lrs]; exact hDi⟩
            · rintro H13 ⟨s13, rs, hR13, lrs, hrs⟩
              obtain ⟨r0, r1, r2, rfl⟩ : ∃ r0 r1 r2, rs = [r0, r1, r2] := by
                match rs, lrs with
                | [a, b, c], _ => exact ⟨a, b, c, rfl⟩
              have hr0 := (hrs 0 r0 rfl).2
              have hr1' := (hrs 1 r1 rfl).2
              have hr2 := (hrs 2 r2 rfl).2
              have hr0 : H13 r0 = some (.lst (natsV ((kn g).map w0))) := hr0
              have hr1' : H13 r1 = some (.lst (natsV ((kn g).map w1))) := hr1'
              have hr2 : H13 r2 = some (.lst (natsV ((kn g).map w2))) := hr2
              have hR13 : H13 R = some (.lst [.ref r0, .ref r1, .ref r2]) := hR13
              clear hrs lrs
              have s11_13 := s12.trans s13
              have s1_13 := s11.trans s11_13
              have hF13 := s11_13 _ _ hF11
              have h0' := s11_13 _ _ h0
              have h1' := s11_13 _ _ h1
              have h2' := s11_13 _ _ h2
              have hMb13 := s13 _ _ hMb
              have rMb13 := RpAll.same s13 rMb
              have hW13 := s11_13 _ _ hW11
              have hla13 := s11_13 _ _ hla11
              have lk3 : ((kn g).map w0).length ≤ 3 := by rw [List.length_map]; omega
              have lk3' : ((kn g).map w1).length ≤ 3 := by rw [List.length_map]; omega
              have lk3'' : ((kn g).map w2).length ≤ 3 := by rw [List.length_map]; omega
              clear s12 s13
              try dsimp only
              show tSeq _ _ _ [some (.ref p), some (.ref S), some (.ref dl), some (.ref kd), some (.ref Fo), some (.str k.name), none, some (.int (0 + (i : Int))), some (.int t), some (.ref ga), some (.ref Mb), none, some (.ref R), x13, none, none] H13
              refine ⟨_, rfl, Fo, _, 0, .ref d0, rfl, rfl, SqL.of hF13, atI_nat (j := 0) rfl, _, rfl, d0, _, rfl, wd_get h0' knm, mx0_read (i := 0) rfl hR13 rfl hr0 (by omega) fun H14 s14 => ?_⟩
              have h014 := s14 _ _ h0'
              refine ⟨1, _, rfl, rfl, _, _, rfl, _, rfl, Fo, _, 0, .ref d0, rfl, rfl, SqL.of (s14 _ _ hF13), atI_nat (j := 0) rfl, _, rfl, d0, _, rfl, DPut.k (k := Sum.inr k.name) h014 (by unfold WD; rw [List.length_map]; omega), ?_⟩
              have ev : (if (1 : Int) + ((lmx ((kn g).map w0) : Nat) : Int) < ((w0 k.name : Nat) : Int) then (1 : Int) + ((lmx ((kn g).map w0) : Nat) : Int) else ((w0 k.name : Nat) : Int)) = ((min (w0 k.name) (1 + mxL w0 g) : Nat) : Int) := by
                rw [mxL_kn]
                rcases Nat.lt_or_ge (1 + lmx ((kn g).map w0)) (w0 k.name) with q | q
                · rw [if_pos (by omega), Nat.min_eq_right (by omega)]
                  omega
                · rw [if_neg (by omega), Nat.min_eq_left q]
              rw [ev]
              have ep : putK (WD B w0) (Sum.inr k.name) (.int ((min (w0 k.name) (1 + mxL w0 g) : Nat) : Int)) = WD B (putN w0 k.name (min (w0 k.name) (1 + mxL w0 g))) := wd_put knm
              rw [ep]
              generalize hv0 : putN w0 k.name (min (w0 k.name) (1 + mxL w0 g)) = v0
              have s15 : ∀ (a : Addr) (o : HO), (∀ kvs, o ≠ .dK kvs) → H13 a = some o → upd H14 d0 (.dK (WD B v0)) a = some o := fun a o hne h => by
                have q := s14 _ _ h
                rw [upd_ne (fun z => by rw [z, h014] at q; exact hne _ (Option.some.inj q).symm)]
                exact q
              have hd0 : upd H14 d0 (.dK (WD B v0)) d0 = some (.dK (WD B v0)) := upd_same
              have hd1 : upd H14 d0 (.dK (WD B v0)) d1 = some (.dK (WD B w1)) := by rw [upd_ne (Ne.symm e01)]; exact s14 _ _ h1'
              have hd2 : upd H14 d0 (.dK (WD B v0)) d2 = some (.dK (WD B w2)) := by rw [upd_ne (Ne.symm e02)]; exact s14 _ _ h2'
              have s1_15 : Same H1 (upd H14 d0 (.dK (WD B v0))) := same_put (s1_13.trans s14) n0
              generalize upd H14 d0 (.dK (WD B v0)) = H15 at s15 hd0 hd1 hd2 s1_15
              have hF15 := s15 _ _ ndL hF13
              have hR15 : H15 R = some (.lst [.ref r0, .ref r1, .ref r2]) := s15 _ _ ndL hR13
              have hr0_15 : H15 r0 = some (.lst (natsV ((kn g).map w0))) := s15 _ _ ndL hr0
              have hr1_15 : H15 r1 = some (.lst (natsV ((kn g).map w1))) := s15 _ _ ndL hr1'
              have hr2_15 := s15 _ _ ndL hr2
              have hMb15 := s15 _ _ ndL hMb13
              have rMb15 : RpAll K H15 bys ((g.filter (onS st)).map Nd.d) := rMb13.tups (fun a xs h => s15 a _ ndT h) (flat_map nd_flat _)
              have hW15 := s15 _ _ ndL hW13
              have hla15 := s15 _ _ ndL hla13
              clear s15 ep ev
              have fineB := fine_nds ok (g := g.filter (onS st)) fun n hn => okg.ok n (List.mem_filter.mp hn).1
              have emB : ((g.filter (onS st)).map Nd.d).isEmpty = !(g.any (onS st)) := by rw [isEmpty_map, filt_none]
              try dsimp only
              show C8.tCut _ _ _ [some (.ref p), some (.ref S), some (.ref dl), some (.ref kd), some (.ref Fo), some (.str k.name), none, some (.int (0 + (i : Int))), some (.int t), some (.ref ga), some (.ref Mb), none, some (.ref R), x13, none, none] H15
              refine ⟨fun σ' H' => σ' = [some (.ref p), some (.ref S), some (.ref dl), some (.ref kd), some (.ref Fo), some (.str k.name), none, some (.int (0 + (i : Int))), some (.int t), some (.ref ga), some (.ref Mb), none, some (.ref R), x13, none, none] ∧ Same H1 H' ∧ H' Fo = some (.lst [.ref d0, .ref d1, .ref d2]) ∧ H' R = some (.lst [.ref r0, .ref r1, .ref r2]) ∧ H' r0 = some (.lst (natsV ((kn g).map w0))) ∧ H' r2 = some (.lst (natsV ((kn g).map w2))) ∧ H' Mb = some (.lst bys) ∧ RpAll K H' bys ((g.filter (onS st)).map Nd.d) ∧ H' W = some (.lst (B.names.map V.str)) ∧ H' la' = some (.lst ((liveL B B.bear k.gs).map fun i : Nat => V.int i)) ∧ H' d0 = some (.dK (WD B v0)) ∧ H' d1 = some (.dK (WD B (nw1 st w1 k g))) ∧ H' d2 = some (.dK (WD B w2)), ?_, ?_⟩
              · refine ⟨_, rfl, Nat.zero_le _, fun E1 nE1 => ?_⟩
                have s16 : Same H15 (upd H15 E1 (.lst [])) := same_new (Same.refl H15) nE1
                have h16 : upd H15 E1 (.lst []) E1 = some (.lst []) := upd_same
                generalize upd H15 E1 (.lst []) = H16 at s16 h16
                obtain ⟨q1, q2, q3⟩ := empty_dp (s16 _ _ hMb15) (RpAll.same s16 rMb15) fineB (by decide)
                refine ⟨_, .list [], q1, .lst (SqL.of h16) .nil, q2, rfl, _, rfl, ?_⟩
                rw [q3, emB]
                have hd1_16 := s16 _ _ hd1
                refine ite2 (fun e => ?_) fun e => ?_
                · have e : g.any (onS st) = false := by simpa using e
                  have en : nw1 st w1 k g = putN w1 k.name (min (w1 k.name) (1 + mxL w1 g)) := by unfold nw1; rw [if_neg (by rw [e]; decide)]
                  refine ⟨_, rfl, Fo, _, 1, .ref d1, rfl, rfl, SqL.of (s16 _ _ hF15), atI_nat (j := 1) rfl, _, rfl, d1, _, rfl, wd_get hd1_16 knm, mx0_read (i := 1) rfl (s16 _ _ hR15) rfl (s16 _ _ hr1_15) (by omega) fun H17 s17 => ?_⟩
                  have hd1_17 := s17 _ _ hd1_16
                  have s15_17 := s16.trans s17
                  refine ⟨1, _, rfl, rfl, _, _, rfl, _, rfl, Fo, _, 1, .ref d1, rfl, rfl, SqL.of (s15_17 _ _ hF15), atI_nat (j := 1) rfl, _, rfl, d1, _, rfl, DPut.k (k := Sum.inr k.name) hd1_17 (by unfold WD; rw [List.length_map]; omega), ?_⟩
                  have ev : (if (1 : Int) + ((lmx ((kn g).map w1) : Nat) : Int) < ((w1 k.name : Nat) : Int) then (1 : Int) + ((lmx ((kn g).map w1) : Nat) : Int) else ((w1 k.name : Nat) : Int)) = ((min (w1 k.name) (1 + mxL w1 g) : Nat) : Int) := by
                    rw [mxL_kn]
                    rcases Nat.lt_or_ge (1 + lmx ((kn g).map w1)) (w1 k.name) with q | q
                    · rw [if_pos (by omega), Nat.min_eq_right (by omega)]
                      omega
                    · rw [if_neg (by omega), Nat.min_eq_left q]
                  rw [ev]
                  have ep : putK (WD B w1) (Sum.inr k.name) (.int ((min (w1 k.name) (1 + mxL w1 g) : Nat) : Int)) = WD B (putN w1 k.name (min (w1 k.name) (1 + mxL w1 g))) := wd_put knm
                  rw [ep, ← en]
                  have s18 : ∀ (a : Addr) (o : HO), (∀ kvs, o ≠ .dK kvs) → H15 a = some o → upd H17 d1 (.dK (WD B (nw1 st w1 k g))) a = some o := fun a o hne h => by
                    have q := s15_17 _ _ h
                    rw [upd_ne (fun z => by rw [z, hd1_17] at q; exact hne _ (Option.some.inj q).symm)]
                    exact q
                  exact ⟨rfl, same_put (s1_15.trans s15_17) n1, s18 _ _ ndL hF15, s18 _ _ ndL hR15, s18 _ _ ndL hr0_15, s18 _ _ ndL hr2_15, s18 _ _ ndL hMb15, rMb15.tups (fun a xs h => s18 a _ ndT h) (flat_map nd_flat _), s18 _ _ ndL hW15, s18 _ _ ndL hla15, by rw [upd_ne e01]; exact s15_17 _ _ hd0, upd_same, by rw [upd_ne (Ne.symm e12)]; exact s15_17 _ _ hd2⟩
                · have e : g.any (onS st) = true := by simpa using e
                  have en : nw1 st w1 k g = w1 := by unfold nw1; rw [if_pos e]
                  rw [en]
                  exact ⟨rfl, s1_15.trans s16, s16 _ _ hF15, s16 _ _ hR15, s16 _ _ hr0_15, s16 _ _ hr2_15, s16 _ _ hMb15, RpAll.same s16 rMb15, s16 _ _ hW15, s16 _ _ hla15, s16 _ _ hd0, hd1_16, s16 _ _ hd2⟩
              · rintro σ' H17 ⟨rfl, s17, hF17, hR17, hr0_17, hr2_17, hMb17, rMb17, hW17, hla17, hd0, hd1, hd2⟩
                try dsimp only
                show tSeq _ _ _ [some (.ref p), some (.ref S), some (.ref dl), some (.ref kd), some (.ref Fo), some (.str k.name), none, some (.int (0 + (i : Int))), some (.int t), some (.ref ga), some (.ref Mb), none, some (.ref R), x13, none, none] H17
                refine ⟨_, rfl, R, _, 0, .ref r0, rfl, rfl, SqL.of hR17, atI_nat (j := 0) rfl, r0, _, rfl, .inl (SqL.of hr0_17), ((kn g).length : Nat), (by show [V.int (((natsV ((kn g).map w0)).length : Nat) : Int)] = [V.int (((kn g).length : Nat) : Int)]; rw [List.length_map, List.length_map]), by omega, by omega, fun Do nDo => ?_⟩
                refine lc_map (K := K) (walk_range (lo := 0) (n := (((kn g).length : Nat) : Int).toNat)) (((List.range (kn g).length).map fun j => mxJ w0 w2 (kn g) j).map fun x : Nat => D.int (x : Nat)) (by rw [List.length_map, List.length_map, List.length_range]; rfl) (flat_map (fun _ => rfl) _) nDo (by show (kn g).length ≤ 100000; omega) (fun _ _ => trivial) ?_ ?_ gName_mono
                · rintro j' dd x Hz H18 Q' hj' hdd s18 ⟨rfl, rfl⟩ kk
                  have jl : j' < (kn g).length := hj'
                  obtain ⟨nj, hnj⟩ : ∃ nj, (kn g)[j']? = some nj := ⟨_, List.getElem?_eq_getElem jl⟩
                  have ed : dd = .int ((mxJ w0 w2 (kn g) j' : Nat) : Int) := by
                    rw [List.getElem?_map, List.getElem?_map, List.getElem?_range jl] at hdd
                    exact (Option.some.inj hdd).symm
                  subst ed
                  have ez : (0 : Int) + (j' : Int) = (j' : Nat) := Int.zero_add _
                  try dsimp only
                  rw [ez]
                  have hR18 := s18 _ _ hR17
                  have hr018 := s18 _ _ hr0_17
                  have hr218 := s18 _ _ hr2_17
                  refine ⟨rfl, _, rfl, R, _, 0, .ref r0, rfl, rfl, SqL.of hR18, atI_nat (j := 0) rfl, _, rfl, j', rfl, r0, _, rfl, SqL.of hr018, fun p1 np1 => ?_⟩
                  rw [cut_take]
                  have s19 : Same H18 (upd H18 p1 (.lst ((natsV ((kn g).map w0)).take j'))) := same_new (Same.refl H18) np1
                  have h19 : upd H18 p1 (.lst ((natsV ((kn g).map w0)).take j')) p1 = some (.lst ((natsV ((kn g).map w0)).take j')) := upd_same
                  generalize upd H18 p1 (.lst ((natsV ((kn g).map w0)).take j')) = H19 at s19 h19
                  refine ⟨_, rfl, R, _, 2, .ref r2, rfl, rfl, SqL.of (s19 _ _ hR18), atI_nat (j := 2) rfl, _, rfl, r2, _, j', _, rfl, rfl, SqL.of (s19 _ _ hr218), atI_nat (nats_at (by rw [List.getElem?_map, hnj]; rfl)), by show 1 ≤ sizeLine; decide, fun p2 np2 => ?_⟩
                  have s20 : Same H19 (upd H19 p2 (.lst [.int (w2 nj : Nat)])) := same_new (Same.refl H19) np2
                  have h20 : upd H19 p2 (.lst [.int (w2 nj : Nat)]) p2 = some (.lst [.int (w2 nj : Nat)]) := upd_same
                  generalize upd H19 p2 (.lst [.int (w2 nj : Nat)]) = H20 at s20 h20
                  have lt : ((natsV ((kn g).map w0)).take j').length ≤ 3 := by rw [List.length_take, List.length_map]; omega
                  refine ⟨p1, p2, _, _, rfl, rfl, s20 _ _ h19, h20, by show _ + 1 ≤ _; omega, fun p3 np3 => ?_⟩
                  have s21 : Same H20 (upd H20 p3 (.lst ((natsV ((kn g).map w0)).take j' ++ [.int (w2 nj : Nat)]))) := same_new (Same.refl H20) np3
                  have h21 : upd H20 p3 (.lst ((natsV ((kn g).map w0)).take j' ++ [.int (w2 nj : Nat)])) p3 = some (.lst ((natsV ((kn g).map w0)).take j' ++ [.int (w2 nj : Nat)])) := upd_same
                  generalize upd H20 p3 (.lst ((natsV ((kn g).map w0)).take j' ++ [.int (w2 nj : Nat)])) = H21 at s21 h21
                  have s18_21 := (s19.trans s20).trans s21
                  refine ⟨_, rfl, R, _, 0, .ref r0, rfl, rfl, SqL.of (s18_21 _ _ hR18), atI_nat (j := 0) rfl, _, rfl, j', 1, rfl, rfl, _, rfl, r0, _, rfl, SqL.of (s18_21 _ _ hr018), fun p4 np4 => ?_⟩
                  have ej : ((j' : Nat) : Int) + 1 = ((j' + 1 : Nat) : Int) := by omega
                  rw [ej, cut_drop]
                  have s22 : Same H21 (upd H21 p4 (.lst ((natsV ((kn g).map w0)).drop (j' + 1)))) := same_new (Same.refl H21) np4
                  have h22 : upd H21 p4 (.lst ((natsV ((kn g).map w0)).drop (j' + 1))) p4 = some (.lst ((natsV ((kn g).map w0)).drop (j' + 1))) := upd_same
                  generalize upd H21 p4 (.lst ((natsV ((kn g).map w0)).drop (j' + 1))) = H22 at s22 h22
                  have ld : ((natsV ((kn g).map w0)).drop (j' + 1)).length ≤ 3 := by rw [List.length_drop, List.length_map]; omega
                  refine ⟨p3, p4, _, _, rfl, rfl, s22 _ _ h21, h22, by rw [List.length_append]; show _ + 1 + _ ≤ _; omega, fun p5 np5 => ?_⟩
                  have el : (natsV ((kn g).map w0)).take j' ++ [.int (w2 nj : Nat)] ++ (natsV ((kn g).map w0)).drop (j' + 1) = ((((kn g).map w0).take j' ++ [w2 nj] ++ ((kn g).map w0).drop (j' + 1)).map fun x : Nat => (x : Int)).map V.int := by
                    rw [List.map_append, List.map_append, List.map_append, List.map_append, List.map_take, List.map_take, List.map_drop, List.map_drop, List.map_map]
                    rfl
                  rw [el]
                  have s23 := same_new (o := .lst (((((kn g).map w0).take j' ++ [w2 nj] ++ ((kn g).map w0).drop (j' + 1)).map fun x : Nat => (x : Int)).map V.int)) (Same.refl H22) np5
                  refine ⟨p5, _, rfl, SqL.of upd_same, by rw [List.length_map, List.length_append, List.length_append]; show 0 < _ + 1 + _; omega, fun mx hmx hle => ?_⟩
                  have e := mx_nats hmx hle
                  rw [mxJ_list hnj] at e
                  rw [e]
                  exact kk _ _ ((s18_21.trans s22).trans s23) (.int _)
                · intro H18 os s18 hDo rDo
                  have eo := rp_natL rDo
                  subst eo
                  have hR18 := s18 _ _ hR17
                  try dsimp only
                  show tSeq _ _ _ [some (.ref p), some (.ref S), some (.ref dl), some (.ref kd), some (.ref Fo), some (.str k.name), none, some (.int (0 + (i : Int))), some (.int t), some (.ref ga), some (.ref Mb), none, some (.ref R), some (.ref Do), none, none] H18
                  refine ⟨_, rfl, mx0_read (i := 0) rfl hR18 rfl (s18 _ _ hr0_17) (by omega) fun H19 s19 => ⟨by show 1 ≤ sizeLine; decide, fun p6 np6 => ?_⟩⟩
                  rw [← mxL_kn]
                  have s20 : Same H19 (upd H19 p6 (.lst [.int (mxL w0 g : Nat)])) := same_new (Same.refl H19) np6
                  have h20 : upd H19 p6 (.lst [.int (mxL w0 g : Nat)]) p6 = some (.lst [.int (mxL w0 g : Nat)]) := upd_same
                  generalize upd H19 p6 (.lst [.int (mxL w0 g : Nat)]) = H20 at s20 h20
                  refine ⟨_, rfl, Nat.zero_le _, fun E2 nE2 => ?_⟩
                  have s21 : Same H20 (upd H20 E2 (.lst [])) := same_new (Same.refl H20) nE2
                  have h21 : upd H20 E2 (.lst []) E2 = some (.lst []) := upd_same
                  generalize upd H20 E2 (.lst []) = H21 at s21 h21
                  have s17_21 := ((s18.trans s19).trans s20).trans s21
                  obtain ⟨q1, q2, q3⟩ := empty_dp (s17_21 _ _ hMb17) (RpAll.same s17_21 rMb17) fineB (by decide)
                  refine ⟨_, .list [], q1, .lst (SqL.of h21) .nil, q2, rfl, .inr ⟨_, rfl, ?_⟩⟩
                  rw [q3, emB, Bool.not_not]
                  refine ⟨p6, _, _, rfl, rfl, s21 _ _ h20, by split <;> decide, by split <;> decide, by split <;> (show 1 * _ ≤ sizeLine; decide), fun p7 np7 => ?_⟩
                  rw [rep1]
                  have e7 : (if g.any (onS st) = true then [V.int (mxL w0 g : Nat)] else []) = natsV (if g.any (onS st) = true then [mxL w0 g] else []) := by split <;> rfl
                  rw [e7]
                  have s22 : Same H21 (upd H21 p7 (.lst (natsV (if g.any (onS st) = true then [mxL w0 g] else [])))) := same_new (Same.refl H21) np7
                  have h22 : upd H21 p7 (.lst (natsV (if g.any (onS st) = true then [mxL w0 g] else []))) p7 = some (.lst (natsV (if g.any (onS st) = true then [mxL w0 g] else []))) := upd_same
                  generalize upd H21 p7 (.lst (natsV (if g.any (onS st) = true then [mxL w0 g] else []))) = H22 at s22 h22
                  have s18_22 := ((s19.trans s20).trans s21).trans s22
                  have lif : (if g.any (onS st) = true then [mxL w0 g] else []).length ≤ 1 := by
                    split
                    · exact Nat.le_refl _
                    · exact Nat.zero_le _
                  refine ⟨Do, p7, _, _, rfl, rfl, s18_22 _ _ hDo, h22, by rw [List.length_map, List.length_map, List.length_map, List.length_range]; omega, fun p8 np8 => ?_⟩
                  rw [← List.map_append]
                  generalize hol : ((List.range (kn g).length).map fun j => mxJ w0 w2 (kn g) j) ++ (if g.any (onS st) = true then [mxL w0 g] else []) = ol
                  have lol : ol.length ≤ 4 := by rw [← hol, List.length_append, List.length_map, List.length_range]; omega
                  have s23 : Same H22 (upd H22 p8 (.lst (natsV ol))) := same_new (Same.refl H22) np8
                  have h23 : upd H22 p8 (.lst (natsV ol)) p8 = some (.lst (natsV ol)) := upd_same
                  try dsimp only
                  show tAsg _ _ _ [some (.ref p), some (.ref S), some (.ref dl), some (.ref kd), some (.ref Fo), some (.str k.name), none, some (.int (0 + (i : Int))), some (.int t), some (.ref ga), some (.ref Mb), none, some (.ref R), some (.ref p8), none, none] (upd H22 p8 (.lst (natsV ol)))
                  generalize upd H22 p8 (.lst (natsV ol)) = H23 at s23 h23
                  have s17_23 := (s18.trans s18_22).trans s23
                  have hF23 := s17_23 _ _ hF17
                  have hd2_23 := s17_23 _ _ hd2
                  refine ⟨_, rfl, Fo, _, 2, .ref d2, rfl, rfl, SqL.of hF23, atI_nat (j := 2) rfl, _, rfl, d2, _, rfl, wd_get hd2_23 knm, by show 1 ≤ sizeLine; decide, fun p9 np9 => ?_⟩
                  have s24 : Same H23 (upd H23 p9 (.lst [.int (w2 k.name : Nat)])) := same_new (Same.refl H23) np9
                  have h24 : upd H23 p9 (.lst [.int (w2 k.name : Nat)]) p9 = some (.lst [.int (w2 k.name : Nat)]) := upd_same
                  generalize upd H23 p9 (.lst [.int (w2 k.name : Nat)]) = H24 at s24 h24
                  have h8_24 := s24 _ _ h23
                  refine ⟨_, rfl, p8, rfl, ⟨_, SqL.of h8_24⟩, fun Dn nDn => ?_⟩
                  refine lc_map (K := K) (walk_list (xs := natsV ol)) ((ol.map fun x => 1 + x).map fun x : Nat => D.int (x : Nat)) (by rw [List.length_map, List.length_map, List.length_map]) (flat_map (fun _ => rfl) _) nDn (by rw [List.length_map]; omega) (fun H' s => SqL.of (s _ _ h8_24)) ?_ ?_ gName_mono
                  · rintro q' dd x Ha Hb Q' hq hdd sa ⟨rfl, hx⟩ kk
                    rw [List.getElem?_map] at hx
                    cases hn : ol[q']? with
                    | none => rw [hn] at hx; cases hx
                    | some y =>
                      rw [hn] at hx
                      cases hx
                      have ed : dd = .int ((1 + y : Nat) : Int) := by
                        rw [List.getElem?_map, List.getElem?_map, hn] at hdd
                        exact (Option.some.inj hdd).symm
                      subst ed
                      refine ⟨rfl, _, rfl, 1, y, rfl, rfl, ?_⟩
                      have e := kk (.int ((1 + y : Nat) : Int)) _ (Same.refl _) (.int _)
                      have ec : ((1 + y : Nat) : Int) = 1 + (y : Int) := by omega
                      rw [ec] at e
                      exact e
                  · intro H25 zs s25 hDn rDn
                    have ezs := rp_natL rDn
                    subst ezs
                    refine ⟨p9, Dn, _, _, rfl, rfl, s25 _ _ h24, hDn, by rw [List.length_map, List.length_map]; show 1 + _ ≤ _; omega, fun p10 np10 => ?_⟩
                    have s26 := same_new (o := .lst ([V.int (w2 k.name : Nat)] ++ natsV (ol.map fun x => 1 + x))) (Same.refl H25) np10
                    have h26 : upd H25 p10 (.lst ([V.int (w2 k.name : Nat)] ++ natsV (ol.map fun x => 1 + x))) p10 = some (.lst ((((w2 k.name : Nat) : Int) :: ol.map fun x : Nat => ((1 + x : Nat) : Int)).map V.int)) := by
                      rw [upd_same, List.map_cons, List.map_map]
                      show some (HO.lst (V.int _ :: natsV _)) = _
                      unfold natsV
                      rw [List.map_map]
                      rfl
                    generalize upd H25 p10 (.lst ([V.int (w2 k.name : Nat)] ++ natsV (ol.map fun x => 1 + x))) = H26 at s26 h26
                    refine ⟨p10, _, rfl, SqL.of h26, by rw [List.length_cons]; omega, fun mn hmn hle => ?_⟩
                    rw [← hol] at hmn hle
                    obtain ⟨x, rfl, nx⟩ := newO_min (B := B) hmn hle
                    have s23_26 := (s24.trans s25).trans s26
                    have s17_26 := s17_23.trans s23_26
                    have hd2_26 := s17_26 _ _ hd2
                    refine ⟨_, rfl, Fo, _, 2, .ref d2, rfl, rfl, SqL.of (s17_26 _ _ hF17), atI_nat (j := 2) rfl, _, rfl, d2, _, rfl, DPut.k (k := Sum.inr k.name) hd2_26 (by unfold WD; rw [List.length_map]; omega), ?_⟩
                    have ep : putK (WD B w2) (Sum.inr k.name) (.int ((x : Nat) : Int)) = WD B (putN w2 k.name x) := wd_put knm
                    rw [ep]
                    have s27 : ∀ (a : Addr) (o : HO), (∀ kvs, o ≠ .dK kvs) → H17 a = some o → upd H26 d2 (.dK (WD B (putN w2 k.name x))) a = some o := fun a o hne h => by
                      have q := s17_26 _ _ h
                      rw [upd_ne (fun z => by rw [z, hd2_26] at q; exact hne _ (Option.some.inj q).symm)]
                      exact q
                    have nxt := sw.step ok hk hg mg' nx
                    rw [← take_snoc ht] at nxt
                    refine ⟨⟨_, _, _, _, _, rfl⟩, same_put (s17.trans s17_26) n2, s27 _ _ ndL hF17, s27 _ _ ndL hW17, s27 _ _ ndL hla17, v0, nw1 st w1 k g, putN w2 k.name x, ?_, ?_, upd_same, ?_⟩
                    · rw [upd_ne e02]
                      exact s17_26 _ _ hd0
                    · rw [upd_ne e12]
                      exact s17_26 _ _ hd1
                    · rw [← hv0]
                      exact nxt
        · rintro σ' H11 ⟨⟨x8, x9, x10, x12, x13, rfl⟩, s11, hF11, hW11, hla11, w0, w1, w2, h0, h1, h2, sw⟩
          rw [List.length_map, List.take_length] at sw
          exact ⟨⟨_, _, _, _, _, _, rfl⟩, s11, hF11, hW11, w0, w1, w2, h0, h1, h2, sw.out hkj⟩
      · rintro σ' H10 ⟨⟨x5, x8, x9, x10, x12, x13, rfl⟩, s10, hF10, hW10, w0, w1, w2, h0, h1, h2, sw⟩
        rw [List.length_map, lnm] at sw
        exact ⟨⟨_, _, _, _, _, _, _, rfl⟩, s10, hF10, w0, w1, w2, h0, h1, h2, sw.fin ok il⟩
    · rintro σ' H8 ⟨⟨x5, x7, x8, x9, x10, x12, x13, rfl⟩, s8, hF8, w0, w1, w2, h80, h81, h82, wk⟩
      have ez : (3 * (((keyed B.names kts).length : Nat) : Int)).toNat = 3 * B.kinds.length := by rw [lkd]; omega
      rw [ez] at wk
      have e1 : w1 = L1 B st := funext fun n => (wk.all ok n).1
      have e2 : w2 = LO B st := funext fun n => (wk.all ok n).2
      rw [e1] at h81
      rw [e2] at h82
      exact ⟨_, rfl, kQ Fo d0 d1 d2 H8 (s1.trans s8) hF8 h81 h82⟩
end
end Gy

namespace Gy
open PySem L2 PySem.Spec PyProof.Rows
/-! ### what the trees hold, plain -/
theorem hasS_app (st a b : List Str) : hasS st (a ++ b) = (hasS st a || hasS st b) := List.any_append
theorem hasS_one (st : List Str) (r : Str) : hasS st [r] = decide (r ∈ st) := by
  show (decide (r ∈ st) || false) = _
  rw [Bool.or_false]
theorem partsBy_knd {f : TM} {n : Str} {a t m : Int} {g : List Nd} {T : Tr} (h : f n = some T) : partsBy f (.knd n a t m :: g) = .kid T (partsBy f g) := by
  simp only [partsBy, h]
theorem partsBy_clean {B : Bk} {st : List Str} {f : TM} : ∀ {g : List Nd}, (∀ n a t m, Nd.knd n a t m ∈ g → ∃ T, f n = some T ∧ hasS st (T.rows B) = false) → g.any (onS st) = false → hasS st ((partsBy f g).rows B g) = false
  | [], _, _ => rfl
  | .row r t m :: g, h, h' => by
    rw [List.any_cons, Bool.or_eq_false_iff] at h'
    show hasS st ([r] ++ (partsBy f g).rows B g) = false
    rw [hasS_app, hasS_one, partsBy_clean (fun n a t m hn => h n a t m (List.mem_cons_of_mem _ hn)) h'.2, Bool.or_false]
    exact h'.1
  | .knd n a t m :: g, h, h' => by
    rw [List.any_cons, Bool.or_eq_false_iff] at h'
    obtain ⟨T, hT, hc⟩ := h n a t m List.mem_cons_self
    rw [partsBy_knd hT]
    show hasS st (T.rows B ++ (partsBy f g).rows B g) = false
    rw [hasS_app, hc, Bool.false_or]
    exact partsBy_clean (fun n a t m hn => h n a t m (List.mem_cons_of_mem _ hn)) h'.2
theorem partsBy_struck {B : Bk} {st : List Str} {f : TM} : ∀ {g : List Nd}, (∀ n a t m, Nd.knd n a t m ∈ g → ∃ T, f n = some T) → g.any (onS st) = true → hasS st ((partsBy f g).rows B g) = true
  | [], _, h' => by cases h'
  | .row r t m :: g, h, h' => by
    rw [List.any_cons, Bool.or_eq_true] at h'
    show hasS st ([r] ++ (partsBy f g).rows B g) = true
    rw [hasS_app, hasS_one, Bool.or_eq_true]
    exact h'.imp id fun z => partsBy_struck (fun n a t m hn => h n a t m (List.mem_cons_of_mem _ hn)) z
  | .knd n a t m :: g, h, h' => by
    rw [List.any_cons, Bool.or_eq_true] at h'
    obtain ⟨T, hT⟩ := h n a t m List.mem_cons_self
    rw [partsBy_knd hT]
    show hasS st (T.rows B ++ (partsBy f g).rows B g) = true
    rw [hasS_app, Bool.or_eq_true]
    rcases h' with z | z
    · cases z
    · exact .inr (partsBy_struck (fun n a t m hn => h n a t m (List.mem_cons_of_mem _ hn)) z)
theorem partsE_old {B : Bk} {st : List Str} {f e : TM} (he : ∀ n T, e n = some T → hasS st (T.rows B) = true) : ∀ {g : List Nd}, (∀ n a t m, Nd.knd n a t m ∈ g → ∃ T, f n = some T) → (∃ n a t m, Nd.knd n a t m ∈ g ∧ (e n).isSome = true) → hasS st ((partsE f e g).rows B g) = true
  | [], _, ⟨_, _, _, _, h, _⟩ => by cases h
  | .row r t m :: g, h, ⟨n', a', t', m', hn, hs⟩ => by
    show hasS st ([r] ++ (partsE f e g).rows B g) = true
    rw [hasS_app, Bool.or_eq_true]
    refine .inr (partsE_old he (fun n a t m hn => h n a t m (List.mem_cons_of_mem _ hn)) ⟨n', a', t', m', ?_, hs⟩)
    rcases List.mem_cons.mp hn with z | z
    · cases z
    · exact z
  | .knd n a t m :: g, h, ⟨n', a', t', m', hn, hs⟩ => by
    obtain ⟨T, hT⟩ := h n a t m List.mem_cons_self
    cases hE : e n with
    | some U =>
      have q : partsE f e (.knd n a t m :: g) = .kid U (partsBy f g) := by simp only [partsE, hE]
      rw [q]
      show hasS st (U.rows B ++ (partsBy f g).rows B g) = true
      rw [hasS_app, he n U hE]
      rfl
    | none =>
      have q : partsE f e (.knd n a t m :: g) = .kid T (partsE f e g) := by simp only [partsE, hE, hT]
      rw [q]
      show hasS st (T.rows B ++ (partsE f e g).rows B g) = true
      rw [hasS_app, Bool.or_eq_true]
      refine .inr (partsE_old he (fun n a t m hn => h n a t m (List.mem_cons_of_mem _ hn)) ⟨n', a', t', m', ?_, hs⟩)
      rcases List.mem_cons.mp hn with z | z
      · cases z
        rw [hE] at hs
        cases hs
      · exact z
section
variable {B : Bk} (ok : BOk B)
include ok
theorem itT_hasS {st : List Str} : ∀ {s : Nat} {n : Str} {t : Tr}, itT B (rClean B st) s n = some t → hasS st (t.rows B) = false
  | 0, _, _, h => by cases h
  | s + 1, n, t, h => by
    rcases sweep_from (okB := ok) h with h | ⟨_, k, hk, hn, i, g, hg, hr, rfl⟩
    · exact itT_hasS h
    · unfold rClean at hr
      rw [Bool.and_eq_true, Bool.not_eq_true'] at hr
      show hasS st ((partsBy _ g).rows B (B.gAt k.name i)) = false
      rw [gAt_of ok hk hg]
      exact partsBy_clean (fun n a t m hn => by
        obtain ⟨_, ⟨T, hT⟩, _⟩ := met_dom hr.1 hn
        exact ⟨T, hT, itT_hasS hT⟩) hr.2
theorem itO_hasS {st : List Str} : ∀ {s : Nat} {n : Str} {t : Tr}, itO B st s n = some t → hasS st (t.rows B) = true
  | 0, _, _, h => by cases h
  | s + 1, n, t, h => by
    rcases sweep_from (okB := ok) h with h | ⟨_, k, hk, hn, i, g, hg, hr, rfl⟩
    · exact itO_hasS h
    · unfold okO at hr
      rw [Bool.and_eq_true] at hr
      have hp : ∀ n a t m, Nd.knd n a t m ∈ g → ∃ T, itT B (metG B) s n = some T := fun n a t m hn => (met_dom hr.1 hn).2.1
      show hasS st ((partsO st _ _ g).rows B (B.gAt k.name i)) = true
      rw [gAt_of ok hk hg]
      unfold partsO
      by_cases z : g.any (onS st) = true
      · rw [if_pos z]
        exact partsBy_struck hp z
      · rw [if_neg z]
        have q := hr.2
        rw [Bool.or_eq_true] at q
        exact partsE_old (fun n T hT => itO_hasS hT) hp (anyOld (q.resolve_left z))
/-- what is told of a kind: a tree of this sort of so few levels, or none -/
structure Told (B : Bk) (st : List Str) (n : Str) (o : Option Tr) (due : Nat) (b : Bool) : Prop where
  non : o = none → due = 99
  ne : ∀ {t}, o = some t → due ≠ 99
  lev : ∀ {t}, o = some t → t.lev = due
  is : ∀ {t}, o = some t → IsTr B n t
  low : ∀ {t}, o = some t → t.lev ≤ 10
  sort : ∀ {t}, o = some t → hasS st (t.rows B) = b
  fine : ∀ {t}, o = some t → t.d.Fine 30000 30
theorem told_clean (h5 : B.kinds.length ≤ 5) (st : List Str) (n : Str) : Told B st n (itT B (rClean B st) B.kinds.length n) (L1 B st n) false := by
  have R := right_clean B st
  have lv : ∀ {t}, itT B (rClean B st) B.kinds.length n = some t → t.lev = L1 B st n ∧ L1 B st n ≤ B.kinds.length := fun {t} h =>
    ⟨(itT_lev ok R (by omega) h).1, (Lv_iff (up_T B (rClean B st)) (by omega)).mp (by rw [h]; rfl)⟩
  refine ⟨fun h => ?_, fun h => ?_, fun h => (lv h).1, fun h => (itT_is ok R h).1, fun h => ?_, fun h => itT_hasS ok h, fun h => ?_⟩
  · refine Nat.le_antisymm (Lv_99 _ _) (Nat.le_of_not_lt fun z => ?_)
    have q := fin_T ok R z
    have q' := (Lv_iff (up_T B (rClean B st)) (by omega)).mpr q
    rw [h] at q'
    cases q'
  · have := (lv h).2
    omega
  · have := lv h
    omega
  · exact (itT_fineC ok R (by omega) h).mono (Nat.le_trans (NT_small h5) (by decide)) (by omega)
theorem told_old (h5 : B.kinds.length ≤ 5) (st : List Str) (n : Str) : Told B st n (itO B st (2 * B.kinds.length) n) (LO B st n) true := by
  have lv : ∀ {t}, itO B st (2 * B.kinds.length) n = some t → t.lev = LO B st n ∧ LO B st n ≤ 2 * B.kinds.length := fun {t} h =>
    ⟨(itO_lev ok (by omega) h).1, (Lv_iff (up_O B st) (by omega)).mp (by rw [h]; rfl)⟩
  refine ⟨fun h => ?_, fun h => ?_, fun h => (lv h).1, fun h => itO_is ok h, fun h => ?_, fun h => itO_hasS ok h, fun h => ?_⟩
  · refine Nat.le_antisymm (Lv_99 _ _) (Nat.le_of_not_lt fun z => ?_)
    have q := fin_O ok z
    have q' := (Lv_iff (up_O B st) (by omega)).mpr q
    rw [h] at q'
    cases q'
  · have := (lv h).2
    omega
  · have := lv h
    omega
  · exact (itO_fine ok (by omega) h).mono (NO_small h5) (by omega)
end
theorem Told.size {B : Bk} {st : List Str} {n : Str} {o : Option Tr} {due : Nat} {b : Bool} (T : Told B st n o due b) {t : Tr} (h : o = some t) : t.size ≤ 30000 := Nat.le_trans t.size_nodes (T.fine h).nodes
/-! ### == of trees -/
mutual
theorem Tr.eqv : ∀ {t u : Tr}, PyData.eqv t.d.py u.d.py = true → t = u
  | .mk n i ps, .mk m j qs, h => by
    simp only [Tr.d, D.py, D.pyAll, PyData.eqv, PyData.eqvAll, Bool.and_eq_true, Bool.and_true, beq_iff_eq] at h
    obtain ⟨h1, h2, h3⟩ := h
    have e : i = j := by omega
    rw [h1, e, Trs.eqv h3]
theorem Trs.eqv : ∀ {t u : Trs}, PyData.eqvAll (D.pyAll t.ds) (D.pyAll u.ds) = true → t = u
  | .nil, .nil, _ => rfl
  | .row r, .row s, h => by
    simp only [Trs.ds, D.py, D.pyAll, PyData.eqv, PyData.eqvAll, Bool.and_eq_true] at h
    rw [Trs.eqv h.2]
  | .kid t r, .kid u s, h => by
    simp only [Trs.ds, D.pyAll, PyData.eqvAll, Bool.and_eq_true] at h
    rw [Tr.eqv h.1, Trs.eqv h.2]
  | .nil, .row _, h => by simp [Trs.ds, D.pyAll, PyData.eqvAll] at h
  | .nil, .kid _ _, h => by simp [Trs.ds, D.pyAll, PyData.eqvAll] at h
  | .row _, .nil, h => by simp [Trs.ds, D.pyAll, PyData.eqvAll] at h
  | .kid _ _, .nil, h => by simp [Trs.ds, D.pyAll, PyData.eqvAll] at h
  | .row _, .kid (.mk _ _ _) _, h => by simp [Trs.ds, Tr.d, D.py, D.pyAll, PyData.eqvAll, PyData.eqv] at h
  | .kid (.mk _ _ _) _, .row _, h => by simp [Trs.ds, Tr.d, D.py, D.pyAll, PyData.eqvAll, PyData.eqv] at h
end
theorem fine_opt {B : Bk} {st : List Str} {n : Str} {o : Option Tr} {due : Nat} {b : Bool} (T : Told B st n o due b) : (optD o).Fine 30000 30 := by
  cases o with
  | none => exact fine_non.mono (by decide) (by decide)
  | some t => exact T.fine rfl
/-- a told tree against one of the other sort -/
theorem told_ne {B : Bk} {st : List Str} {n : Str} {o o' : Option Tr} {due due' : Nat} {b : Bool} (T : Told B st n o due b) (T' : Told B st n o' due' (!b)) {t : Tr} (h : o = some t) : PyData.eqv t.d.py (optD o').py = false := by
  cases o' with
  | none => cases t; rfl
  | some u =>
    cases z : PyData.eqv t.d.py u.d.py with
    | false => exact z
    | true =>
      have e := Tr.eqv z
      subst e
      have h1 := T.sort h
      have h2 := T'.sort rfl
      rw [h1] at h2
      cases b <;> cases h2
end Gy

namespace Gy
open PySem L2 PySem.Spec PyProof.Rows
/-! ### is_told_tree -/
abbrev sToldT : Stmt := top 55
abbrev NTd : List Str := ["_law_rulebook_here", "_law_struck", "_law_live_here", "_law_name", "_law_told", "_law_due", "_law_is_old"]
def spToldT (K : PySem.W.Frag) : Sp := fun vs H Q _ => ∃ (p S dl : Addr) (v : V) (B : Bk) (st : List Str) (n : Str) (o : Option Tr) (due : Nat) (b : Bool), vs = [.ref p, .ref S, .ref dl, .str n, v, .int (due : Nat), .bl b] ∧ Rp K H (.ref p) B.d ∧ BOk B ∧ SqQ H S (st.map V.str) ∧ KL H dl B ∧ Rp K H v (optD o) ∧ Told B st n o due b ∧ ∀ H', Same H H' → Q (.bl true) H'
theorem twoT_fine {i : Nat} (h : i < 1000) : (D.lst [.int (i : Nat), .int (i : Nat)]).Fine 10 2 := (FineL.lst (.cons (fine_int (by omega) (by omega)) (.cons (fine_int (by omega) (by omega)) .nil))).mono (by decide) (by decide)
section
variable {P : Program} {w : World} {K : PySem.W.Frag} {mg : Str → Option Value} {base : Heap}
theorem scToldT : FnScope NTd NTd (defScope sToldT) := ⟨rfl, rfl, rfl, by decide +kernel, rfl, by decide +kernel, by decide +kernel⟩
theorem ok_toldT {f : Addr} {fd : FuncData} (F : Fun K "_law_is_told_tree" "_law_is_told_tree" sToldT f fd) (CS : CalG P w K mg base NoGuardC 21 "_law_is_sort_of_tree" ["_law_rulebook_here", "_law_struck", "_law_live_here", "_law_name", "_law_thing", "_law_is_old"] (spSortL K)) (CL : Cal P w K mg base 19 "levels_of" ["tree"] (spLevels K 18)) (CLL : Cal P w K mg base 19 "_law_levels" ["_law_tree"] (spLevels K 18)) (CA : CalG P w K mg base NoGuard 1 "_law_alike" ["_law_found", "_law_due"] (spAlikeX K)) :
    FnG NoGuardC P w K mg base 22 f fd NTd (spToldT K) := by
  refine fn_ofG (c := true) F scToldT (fun A h _ => h.2) (fun vs H Q E h => ?_) (fun cdv A outer s H vs Q E hG hr h => ?_)
  · obtain ⟨p, S, dl, v, B, st, n, o, due, b, rfl, _⟩ := h
    rfl
  · obtain ⟨p, S, dl, v, B, st, n, o, due, b, rfl, rp, ok, hS, kl, rv, T, kQ⟩ := h
    have nd := scToldT.nd
    have hg : (A.deeper (envOfC "_law_is_told_tree" (defScope sToldT) s.heap.objs.size f cdv)).guards = some [] := hG.1
    have hGC : NoGuardC (A.deeper (envOfC "_law_is_told_tree" (defScope sToldT) s.heap.objs.size f cdv)) := hG
    have hR : Room 21 (A.deeper (envOfC "_law_is_told_tree" (defScope sToldT) s.heap.objs.size f cdv)) := ⟨hG.2, hr.dp, hr.un⟩
    have hR19 := hR.mono (by decide : 19 ≤ 21)
    have hr1 := hr.mono (by decide : 1 ≤ 21)
    have hz := sizeLine_eq
    refine ⟨_, pss_cons (ps_if (pt_cmpR op_eq (pv 5) pe_int (nomark _)) (pss_one (ps_ret (pe_cmpR op_isN (pv 4) pe_non (nomark _)))) pss_nil)
      (pss_cons (ps_if (pt_not (pt_val (pe_calG CS hr hGC rfl (pa_cons (pv 0) (pa_cons (pv 1) (pa_cons (pv 2) (pa_cons (pv 3) (pa_cons (pv 4) (pa_cons (pv 6) pa_nil))))))))) (pss_one (ps_ret pe_bl)) pss_nil)
      (pss_one (ps_ret (pe_calG CA hr1 hg rfl (pa_cons (pe_lst (pa_cons (pe_cal CL hR19 rfl (pa_cons (pv 4) pa_nil)) (pa_cons (pe_cal CLL hR19 rfl (pa_cons (pv 4) pa_nil)) pa_nil))) (pa_cons (pe_lst (pa_cons (pv 5) (pa_cons (pv 5) pa_nil))) pa_nil)))))), ?_⟩
    refine ⟨_, rfl, rfl, _, rfl, ?_⟩
    cases ho : o with
    | none =>
      rw [ho] at rv
      have e := T.non ho
      subst e
      cases rv
      exact iteT ⟨_, rfl, rfl, kQ _ (Same.refl _)⟩
    | some t =>
      rw [ho] at rv
      have ne := T.ne ho
      have lv := T.lev ho
      have low := T.low ho
      have ed : decide (V.int (due : Nat) = V.int 99) = false := by
        rw [decide_eq_false_iff_not]
        intro z
        injection z with z
        omega
      rw [ed]
      refine iteF (next_open ?_)
      refine ⟨_, rfl, _, rfl, _, rfl, _, rfl, _, rfl, _, rfl, p, S, dl, v, B, st, n, t, b, rfl, rp, ok, hS, kl, rv, T.is ho, by omega, T.size ho, T.sort ho, fun H1 s1 => ⟨true, rfl, iteF (next_open ?_)⟩⟩
      have rv0 : Rp K H v t.d := rv
      have rv1 := rv0.same s1
      refine ⟨_, rfl, v, t, rfl, rv1, by omega, ⟨B, n, ok, T.is ho⟩, fun H2 s2 => ⟨_, rfl, v, t, rfl, rv1.same s2, by omega, ⟨B, n, ok, T.is ho⟩, fun H3 s3 => ⟨by show 2 ≤ sizeLine; decide, fun L1 n1 => ⟨_, rfl, _, rfl, by show 2 ≤ sizeLine; decide, fun L2 n2 => ?_⟩⟩⟩⟩
      rw [lv] at n2 ⊢
      have s4 : Same H3 (upd H3 L1 (.lst [.int (due : Nat), .int (due : Nat)])) := same_new (Same.refl H3) n1
      have h4 : upd H3 L1 (.lst [.int (due : Nat), .int (due : Nat)]) L1 = some (.lst [.int (due : Nat), .int (due : Nat)]) := upd_same
      generalize upd H3 L1 (.lst [.int (due : Nat), .int (due : Nat)]) = H4 at s4 h4 n2
      have s5 : Same H4 (upd H4 L2 (.lst [.int (due : Nat), .int (due : Nat)])) := same_new (Same.refl H4) n2
      have h5 : upd H4 L2 (.lst [.int (due : Nat), .int (due : Nat)]) L2 = some (.lst [.int (due : Nat), .int (due : Nat)]) := upd_same
      generalize upd H4 L2 (.lst [.int (due : Nat), .int (due : Nat)]) = H5 at s5 h5
      exact ⟨_, _, rfl, AlikeX.of (.lst (s5 _ _ h4) (.cons (.int _) (.cons (.int _) .nil))) (.lst h5 (.cons (.int _) (.cons (.int _) .nil))) (twoT_fine (i := due) (by omega)) (by decide) (by decide), kQ _ ((((s1.trans s2).trans s3).trans s4).trans s5)⟩
end
end Gy

namespace Gy
open PySem L2 PySem.Spec PyProof.Rows
/-! ### are_trees_right -/
abbrev sTR : Stmt := top 56
abbrev NTr : List Str := ["_law_rulebook_here", "_law_struck", "_law_live_here", "_law_kept", "_law_least", "_law_name", "_law_clean", "_law_old", "_law_tree", "_law_told"]
def spTR (K : PySem.W.Frag) : Sp := fun vs H Q _ => ∃ (p S : Addr) (B : Bk) (st : List Str), vs = [.ref p, .ref S] ∧ Rp K H (.ref p) B.d ∧ BOk B ∧ B.kinds.length ≤ 5 ∧ H S = some (.tup (st.map V.str)) ∧ (∀ x ∈ st, x ∈ menu) ∧ st.length ≤ 15 ∧ ∀ H', Same H H' → Q (.bl true) H'
theorem askedT_fine {B : Bk} (ok : BOk B) {st : List Str} (hm : ∀ x ∈ st, x ∈ menu) (l : st.length ≤ 15) : (D.lst [B.d, .tup (st.map D.str)]).Fine 1500 7 := by
  have q := FineL.of (ds := st.map D.str) (n := 1) (m := 0) fun d hd => by
    obtain ⟨x, hx, rfl⟩ := List.mem_map.mp hd
    exact fine_name (hm x hx)
  rw [List.length_map] at q
  exact (FineL.lst (.cons ok.fine (.cons q.tup .nil))).mono (by omega) (by decide)
theorem bl_fine (b : Bool) : (D.bl b).Fine 1 0 := ⟨rfl, Nat.le_refl _, Nat.le_refl _⟩
theorem bls_fine (a b : Bool) : (D.lst [.bl a, .bl b]).Fine 10 2 := (FineL.lst (.cons (bl_fine a) (.cons (bl_fine b) .nil))).mono (by decide) (by decide)
theorem wd_ne {B : Bk} (ne : B.names ≠ []) {w : Str → Nat} {as : List Addr} (l : as.length = B.kinds.length) : WD B w ≠ keyed B.names (as.map V.ref) := by
  have l' : as.length = B.names.length := by unfold Bk.names; rw [List.length_map, l]
  unfold WD
  generalize B.names = ns at ne l'
  cases ns with
  | nil => exact absurd rfl ne
  | cons n ns =>
    cases as with
    | nil => cases l'
    | cons a as =>
      intro z
      unfold keyed at z
      simp at z
theorem tr_notnon {K : PySem.W.Frag} {H : Hp} {x : V} {t : Tr} (r : Rp K H x t.d) : decide (x = V.non) = false := by
  cases t
  unfold Tr.d at r
  cases r
  rfl
theorem opt_dp {K : PySem.W.Frag} {H : Hp} {x : V} {d : D} {n m : Nat} (r : Rp K H x d) (f : d.Fine n m) (hm : m ≤ 40) : Dp K H x d.py ∧ SeqAt.shaped d.py = true ∧ PyData.eqv d.py d.py = true := by
  obtain ⟨h4, h5, h6⟩ := f.shaped hm
  exact ⟨r.dp h4, h5, h6⟩
section
variable {P : Program} {w : World} {K : PySem.W.Frag} {mg : Str → Option Value} {base : Heap}
theorem scTR : FnScope NTr ["_law_rulebook_here", "_law_struck"] (defScope sTR) := ⟨rfl, rfl, rfl, by decide +kernel, rfl, by decide +kernel, by decide +kernel⟩
theorem ok_TR {f : Addr} {fd : FuncData} (F : Fun K "_law_are_trees_right" "_law_are_trees_right" sTR f fd) (zR : mg "repr" = none)
    (CV : Cal P w K mg base 3 "_law_live" ["_law_rulebook_here"] (spLive K)) (CL : Cal P w K mg base 2 "_law_least_levels" ["_law_rulebook_here", "_law_struck", "_law_live_here"] (spLeast K)) (CT : CalG P w K mg base NoGuardC 22 "_law_is_told_tree" NTd (spToldT K))
    (PC : Cal P w K mg base 8 "clean_tree" ["rulebook", "struck", "name"] (spCleanT K)) (PO : Cal P w K mg base 7 "old_tree" ["rulebook", "struck", "name"] (spOldT K)) (IC : Cal P w K mg base 29 "is_clean_tree" ["rulebook", "struck", "name", "thing"] (spIsSort K true)) (IO : Cal P w K mg base 29 "is_old_tree" ["rulebook", "struck", "name", "thing"] (spIsSort K false)) (CA : CalG P w K mg base NoGuard 1 "_law_alike" ["_law_found", "_law_due"] (spAlikeX K)) :
    FnG NoGuardC P w K mg base 30 f fd ["_law_rulebook_here", "_law_struck"] (spTR K) := by
  refine fn_ofG (c := true) F scTR (fun A h _ => h.2) (fun vs H Q E h => ?_) (fun cdv A outer s H vs Q E hG hr h => ?_)
  · obtain ⟨p, S, B, st, rfl, _⟩ := h
    rfl
  · obtain ⟨p, S, B, st, rfl, rp, ok, h5, hS, hm, l15, kQ⟩ := h
    have nd := scTR.nd
    have hg : (A.deeper (envOfC "_law_are_trees_right" (defScope sTR) s.heap.objs.size f cdv)).guards = some [] := hG.1
    have hGC : NoGuardC (A.deeper (envOfC "_law_are_trees_right" (defScope sTR) s.heap.objs.size f cdv)) := hG
    have hR : Room 29 (A.deeper (envOfC "_law_are_trees_right" (defScope sTR) s.heap.objs.size f cdv)) := ⟨hG.2, hr.dp, hr.un⟩
    have hR2 := hR.mono (by decide : 2 ≤ 29)
    have hR3 := hR.mono (by decide : 3 ≤ 29)
    have hR7 := hR.mono (by decide : 7 ≤ 29)
    have hR8 := hR.mono (by decide : 8 ≤ 29)
    have hr1 := hr.mono (by decide : 1 ≤ 29)
    have hr22 := hr.mono (by decide : 22 ≤ 29)
    have hu := hR.units
    have hu0 := hu_of hR
    have hz := sizeLine_eq
    refine ⟨_, pss_cons (ps_par (i := 2) (j := 3) rfl nd rfl rfl (by decide) rfl rfl (pa_cons (pe_cal CV hR3 rfl (pa_cons (pv 0) pa_nil)) (pa_cons (pe_callB (call_reprD hg hu) (by rfl) zR (by decide +kernel) (pa_cons (pe_lst (pa_cons (pv 0) (pa_cons (pv 1) pa_nil))) pa_nil)) pa_nil)) (by rfl))
      (pss_cons (ps_set (i := 4) nd rfl (Or.inl rfl) (pe_cal CL hR2 rfl (pa_cons (pv 0) (pa_cons (pv 1) (pa_cons (pv 2) pa_nil)))))
      (pss_cons (ps_lock (ps_for PassesOwn.never rfl (pi_keys (pv 2)) (pg_name (i := 5) nd rfl (Or.inl rfl))
        (pss_cons (ps_par (i := 6) (j := 7) rfl nd rfl rfl (by decide) rfl rfl (pa_cons (pe_cal PC hR8 rfl (pa_cons (pv 0) (pa_cons (pv 1) (pa_cons (pv 5) pa_nil)))) (pa_cons (pe_cal PO hR7 rfl (pa_cons (pv 0) (pa_cons (pv 1) (pa_cons (pv 5) pa_nil)))) pa_nil)) (by rfl))
        (pss_cons (ps_if (pt_not (pt_val (pe_calG CT hr22 hGC rfl (pa_cons (pv 0) (pa_cons (pv 1) (pa_cons (pv 2) (pa_cons (pv 5) (pa_cons (pv 6) (pa_cons (pe_dget hu0 (pe_ix ix_list (pv 4) pe_int (fun _ _ => rfl)) (pv 5) (fun _ _ => rfl)) (pa_cons pe_bl pa_nil)))))))))) (pss_one (ps_ret pe_bl)) pss_nil)
        (pss_cons (ps_if (pt_not (pt_val (pe_calG CT hr22 hGC rfl (pa_cons (pv 0) (pa_cons (pv 1) (pa_cons (pv 2) (pa_cons (pv 5) (pa_cons (pv 7) (pa_cons (pe_dget hu0 (pe_ix ix_list (pv 4) pe_int (fun _ _ => rfl)) (pv 5) (fun _ _ => rfl)) (pa_cons pe_bl pa_nil)))))))))) (pss_one (ps_ret pe_bl)) pss_nil)
        (pss_cons (ps_for PassesOwn.never rfl (pi_tup (pe_tup (pa_cons (pv 6) (pa_cons (pv 7) pa_nil)))) (pg_name (i := 8) nd rfl (Or.inl rfl))
          (pss_one (ps_if (pt_cmpR op_notN (pv 8) pe_non (nomark _))
            (pss_cons (ps_set (i := 9) nd rfl (Or.inl rfl) (pe_lst (pa_cons (pe_cal IC hR rfl (pa_cons (pv 0) (pa_cons (pv 1) (pa_cons (pv 5) (pa_cons (pv 8) pa_nil))))) (pa_cons (pe_cal IO hR rfl (pa_cons (pv 0) (pa_cons (pv 1) (pa_cons (pv 5) (pa_cons (pv 8) pa_nil))))) pa_nil))))
            (pss_one (ps_if (pt_not (pt_val (pe_calG CA hr1 hg rfl (pa_cons (pv 9) (pa_cons (pe_lst (pa_cons (pe_cmpR (op_eqD hu) (pv 8) (pv 6) (nomark _)) (pa_cons (pe_cmpR (op_eqD hu) (pv 8) (pv 7) (nomark _)) pa_nil))) pa_nil))))) (pss_one (ps_ret pe_bl)) pss_nil)))
            pss_nil)))
        (pss_one (ps_if (pt_not (pt_val (pe_calG CA hr1 hg rfl (pa_cons (pe_lst (pa_cons (pe_cal PC hR8 rfl (pa_cons (pv 0) (pa_cons (pv 1) (pa_cons (pv 5) pa_nil)))) (pa_cons (pe_cal PO hR7 rfl (pa_cons (pv 0) (pa_cons (pv 1) (pa_cons (pv 5) pa_nil)))) pa_nil))) (pa_cons (pe_lst (pa_cons (pv 6) (pa_cons (pv 7) pa_nil))) pa_nil))))) (pss_one (ps_ret pe_bl)) pss_nil))))))))
      (pss_one (ps_ret (pe_cmpR op_eq (pe_callB (call_reprD hg hu) (by rfl) zR (by decide +kernel) (pa_cons (pe_lst (pa_cons (pv 0) (pa_cons (pv 1) pa_nil))) pa_nil)) (pv 3) (nomark _)))))), ?_⟩
    have fk := (askedT_fine ok hm l15).show (by decide) (by decide)
    refine ⟨_, rfl, p, B, rfl, rp, ok, fun d H1 as s1 nd1 hd las kl => ⟨_, rfl, _, rfl, by show 2 ≤ sizeLine; decide, fun K0 nK0 => ?_⟩⟩
    have s2 : Same H1 (upd H1 K0 (.lst [.ref p, .ref S])) := same_new (Same.refl H1) nK0
    have h2 : upd H1 K0 (.lst [.ref p, .ref S]) K0 = some (.lst [.ref p, .ref S]) := upd_same
    generalize upd H1 K0 (.lst [.ref p, .ref S]) = H2 at s2 h2
    have s02 := s1.trans s2
    have rK0 : Rp K H2 (.ref K0) (.lst [B.d, .tup (st.map D.str)]) := .lst h2 (.cons (rp.same s02) (.cons (.tup (s02 _ _ hS) (rp_of_strs _)) .nil))
    refine ⟨.ref K0, _, rfl, rK0, fk.1, fk.2.1, fk.2.2, _, _, rfl, ?_⟩
    generalize hkept : (D.lst [B.d, .tup (st.map D.str)]).shown = kept
    try dsimp only
    show tSeq _ _ _ [some (.ref p), some (.ref S), some (.ref d), some (.str kept), none, none, none, none, none, none] H2
    refine ⟨_, rfl, _, rfl, _, rfl, p, S, d, B, st, rfl, rp.same s02, ok, .inr (s02 _ _ hS), kl.same s2, fun F0 e0 e1 e2 H3 s3 hF0 h1d h2d => ?_⟩
    have s03 := s02.trans s3
    have s13 := s2.trans s3
    have hd3 := s13 _ _ hd
    have dk_ne : ∀ {a : Addr} {o : HO}, H3 a = some o → o ≠ .dK (keyed B.names (as.map V.ref)) → a ≠ d := fun ha ne z => by
      rw [z, hd3] at ha
      exact ne (Option.some.inj ha).symm
    try dsimp only
    show tSeq _ _ _ [some (.ref p), some (.ref S), some (.ref d), some (.str kept), some (.ref F0), none, none, none, none, none] H3
    refine ⟨d, _, hd3, by trivial, fun od => ?_⟩
    have TL : Tups H3 (upd H3 d (.frz od (.dK (keyed B.names (as.map V.ref))))) := fun a xs h => by
      rw [upd_ne (dk_ne h fun z => nomatch z)]
      exact h
    have hdL : upd H3 d (.frz od (.dK (keyed B.names (as.map V.ref)))) d = some (.frz od (.dK (keyed B.names (as.map V.ref)))) := upd_same
    have eL : ∀ a o, a ≠ d → H3 a = some o → upd H3 d (.frz od (.dK (keyed B.names (as.map V.ref)))) a = some o := fun a o ne h => by
      rw [upd_ne ne]
      exact h
    generalize hHL : upd H3 d (.frz od (.dK (keyed B.names (as.map V.ref)))) = HL at TL hdL eL
    have rpL : Rp K HL (.ref p) B.d := (rp.same s03).tups TL (bk_flat B)
    have hSL : HL S = some (.tup (st.map V.str)) := TL _ _ (s03 _ _ hS)
    have hF0L : HL F0 = some (.lst [.ref e0, .ref e1, .ref e2]) := eL _ _ (dk_ne hF0 fun z => nomatch z) hF0
    have wn : ∀ w, HO.dK (WD B w) ≠ .dK (keyed B.names (as.map V.ref)) := fun w z => wd_ne ok.names.ne las (by injection z)
    have h1L := eL _ _ (dk_ne h1d (wn _)) h1d
    have h2L := eL _ _ (dk_ne h2d (wn _)) h2d
    have klL : KL HL d B := by
      obtain ⟨bs, hb, lb, ra⟩ := kl.same s13
      refine ⟨bs, ?_, lb, fun i k a hk ha => eL _ _ (dk_ne (ra i k a hk ha) fun z => nomatch z) (ra i k a hk ha)⟩
      rcases hb with y | ⟨o, y⟩
      · rw [hd3] at y
        rw [← Option.some.inj y]
        exact .inr ⟨od, hdL⟩
      · rw [hd3] at y
        cases y
    have hn99 : ∀ n, (L1 B st n : Nat) = L1 B st n := fun _ => rfl
    refine ⟨_, rfl, d, od, rfl, .inl ⟨_, hdL, for_it (walk_keys (kvs := keyed B.names (as.map V.ref))) (fun j σ' H' => (∃ x5 x6 x7 x8 x9, σ' = [some (.ref p), some (.ref S), some (.ref d), some (.str kept), some (.ref F0), x5, x6, x7, x8, x9]) ∧ Same HL H')
      ⟨⟨_, _, _, _, _, rfl⟩, Same.refl HL⟩ (fun j σ' H' _ z => z.2 _ _ hdL) ?_ ?_⟩⟩
    · rintro j x σ' HA' HA hj ⟨⟨x5, x6, x7, x8, x9, rfl⟩, sA⟩ ⟨rfl, ky, v, hkv, rfl⟩
      obtain ⟨n, hn, rfl⟩ := keyed_of hkv
      have hnm : n ∈ B.names := List.mem_of_getElem? hn
      have TC := told_clean ok h5 st n
      have TO := told_old ok h5 st n
      try dsimp only
      show tSeq _ _ _ [some (.ref p), some (.ref S), some (.ref d), some (.str kept), some (.ref F0), some (.str n), x6, x7, x8, x9] _
      refine ⟨_, rfl, _, rfl, _, rfl, p, S, B, st, n, rfl, rpL.same sA, ok, .inr (sA _ _ hSL), fun vc HB sB rc => ⟨_, rfl, _, rfl, _, rfl, p, S, B, st, n, rfl, rpL.same (sA.trans sB), ok, .inr ((sA.trans sB) _ _ hSL), fun vo HC sC ro => ⟨_, _, rfl, ?_⟩⟩⟩
      have sLC := (sA.trans sB).trans sC
      have rcC := rc.same sC
      generalize hCT : itT B (rClean B st) B.kinds.length n = oc at TC rc rcC
      generalize hOT : itO B st (2 * B.kinds.length) n = oo at TO ro
      try dsimp only
      show tSeq _ _ _ [some (.ref p), some (.ref S), some (.ref d), some (.str kept), some (.ref F0), some (.str n), some vc, some vo, x8, x9] HC
      refine ⟨_, rfl, _, rfl, _, rfl, _, rfl, _, rfl, _, rfl, F0, _, 1, .ref e1, rfl, rfl, SqL.of (sLC _ _ hF0L), atI_nat (j := 1) rfl, _, rfl, e1, _, rfl, wd_get (sLC _ _ h1L) hnm, p, S, d, vc, B, st, n, oc, L1 B st n, false, rfl, rpL.same sLC, ok, .inr (sLC _ _ hSL), klL.same sLC, rcC, TC, fun HD sD => ⟨true, rfl, iteF (next_open ?_)⟩⟩
      have sLD := sLC.trans sD
      refine ⟨_, rfl, _, rfl, _, rfl, _, rfl, _, rfl, _, rfl, F0, _, 2, .ref e2, rfl, rfl, SqL.of (sLD _ _ hF0L), atI_nat (j := 2) rfl, _, rfl, e2, _, rfl, wd_get (sLD _ _ h2L) hnm, p, S, d, vo, B, st, n, oo, LO B st n, true, rfl, rpL.same sLD, ok, .inr (sLD _ _ hSL), klL.same sLD, ro.same sD, TO, fun HE sE => ⟨true, rfl, iteF (next_open ?_)⟩⟩
      have sLE := sLD.trans sE
      have sCE := sD.trans sE
      have rcE := rcC.same sCE
      have roE := ro.same sCE
      try dsimp only
      refine ⟨_, rfl, _, rfl, by show 2 ≤ sizeLine; decide, fun T nT => ?_⟩
      have sF : Same HE (upd HE T (.tup [vc, vo])) := same_new (Same.refl HE) nT
      have hT : upd HE T (.tup [vc, vo]) T = some (.tup [vc, vo]) := upd_same
      generalize upd HE T (.tup [vc, vo]) = HF at sF hT
      have sLF := sLE.trans sF
      have rcF := rcE.same sF
      have roF := roE.same sF
      have dc := opt_dp rcF (fine_opt TC) (by decide)
      have do' := opt_dp roF (fine_opt TO) (by decide)
      refine ⟨T, rfl, ⟨_, SqT.of hT⟩, for_tup (xs := [vc, vo]) (fun i σ' H' => (∃ x8 x9, σ' = [some (.ref p), some (.ref S), some (.ref d), some (.str kept), some (.ref F0), some (.str n), some vc, some vo, x8, x9]) ∧ Same HF H') ⟨⟨_, _, rfl⟩, Same.refl HF⟩ (fun i σ' H' _ z => SqT.of (z.2 _ _ hT)) ?_ ?_⟩
      · rintro i x σ' HG hx ⟨⟨x8, x9, rfl⟩, sG⟩
        obtain ⟨o, due, b, Tt, rx, q1, q2⟩ : ∃ (o : Option Tr) (due : Nat) (b : Bool), Told B st n o due b ∧ Rp K HF x (optD o) ∧ (∀ t, o = some t → PyData.eqv t.d.py (optD oc).py = !b) ∧ (∀ t, o = some t → PyData.eqv t.d.py (optD oo).py = b) := by
          match i, hx with
          | 0, hx =>
            cases hx
            exact ⟨oc, _, _, TC, rcF, fun t h => by have q := dc.2.2; rw [h] at q ⊢; exact q, fun t h => told_ne TC TO h⟩
          | 1, hx =>
            cases hx
            exact ⟨oo, _, _, TO, roF, fun t h => told_ne TO TC h, fun t h => by have q := do'.2.2; rw [h] at q ⊢; exact q⟩
        have sLG := sLF.trans sG
        try dsimp only
        show tIfS _ _ _ _ [some (.ref p), some (.ref S), some (.ref d), some (.str kept), some (.ref F0), some (.str n), some vc, some vo, some x, x9] HG
        refine ⟨_, rfl, rfl, _, rfl, ?_⟩
        cases ho : o with
        | none =>
          rw [ho] at rx
          cases rx
          exact iteF ⟨⟨_, _, rfl⟩, sG⟩
        | some t =>
          rw [ho] at rx
          have rx0 : Rp K HF x t.d := rx
          have e1 := q1 t ho
          have e2 := q2 t ho
          have it := Tt.is ho
          have low := Tt.low ho
          have sz := Tt.size ho
          have ft := Tt.fine ho
          have so := Tt.sort ho
          rw [tr_notnon rx0]
          refine iteT ?_
          have rxG := rx0.same sG
          refine ⟨_, rfl, _, rfl, _, rfl, _, rfl, p, S, x, B, st, n, t, rfl, rpL.same sLG, ok, .inr (sLG _ _ hSL), rxG, it, by omega, sz, fun HI sI => ⟨_, rfl, _, rfl, _, rfl, _, rfl, p, S, x, B, st, n, t, rfl, rpL.same (sLG.trans sI), ok, .inr ((sLG.trans sI) _ _ hSL), rxG.same sI, it, by omega, sz, fun HJ sJ => ⟨by show 2 ≤ sizeLine; decide, fun W nW => ?_⟩⟩⟩
          rw [so]
          try dsimp only
          show tIfS _ _ _ _ [some (.ref p), some (.ref S), some (.ref d), some (.str kept), some (.ref F0), some (.str n), some vc, some vo, some x, some (.ref W)] (upd HJ W (.lst [.bl (!b), .bl b]))
          have sK : Same HJ (upd HJ W (.lst [.bl (!b), .bl b])) := same_new (Same.refl HJ) nW
          have hW : upd HJ W (.lst [.bl (!b), .bl b]) W = some (.lst [.bl (!b), .bl b]) := upd_same
          generalize upd HJ W (.lst [.bl (!b), .bl b]) = HK at sK hW
          have sGK := (sI.trans sJ).trans sK
          have sFK := sG.trans sGK
          have dx := opt_dp (rx0.same sFK) ft (by decide)
          have dcK := opt_dp (rcF.same sFK) (fine_opt TC) (by decide)
          have doK := opt_dp (roF.same sFK) (fine_opt TO) (by decide)
          refine ⟨_, rfl, _, rfl, _, rfl, _, _, dx.1, dcK.1, dx.2.1, dcK.2.1, _, rfl, _, rfl, _, _, dx.1, doK.1, dx.2.1, doK.2.1, by show 2 ≤ sizeLine; decide, fun W2 nW2 => ?_⟩
          rw [e1, e2]
          have sM : Same HK (upd HK W2 (.lst [.bl (!b), .bl b])) := same_new (Same.refl HK) nW2
          have hW2 : upd HK W2 (.lst [.bl (!b), .bl b]) W2 = some (.lst [.bl (!b), .bl b]) := upd_same
          generalize upd HK W2 (.lst [.bl (!b), .bl b]) = HM at sM hW2
          refine ⟨_, _, rfl, AlikeX.of (.lst (sM _ _ hW) (.cons (.bl _) (.cons (.bl _) .nil))) (.lst hW2 (.cons (.bl _) (.cons (.bl _) .nil))) (bls_fine (!b) b) (by decide) (by decide), true, rfl, iteF ?_⟩
          exact ⟨⟨_, _, rfl⟩, (sG.trans sGK).trans sM⟩
      · rintro σ' HG ⟨⟨x8, x9, rfl⟩, sG⟩
        have sLG := sLF.trans sG
        try dsimp only
        refine ⟨_, rfl, _, rfl, _, rfl, p, S, B, st, n, rfl, rpL.same sLG, ok, .inr (sLG _ _ hSL), fun wc HI sI rwc => ⟨_, rfl, _, rfl, _, rfl, p, S, B, st, n, rfl, rpL.same (sLG.trans sI), ok, .inr ((sLG.trans sI) _ _ hSL), fun wo HJ sJ rwo => ⟨by show 2 ≤ sizeLine; decide, fun W nW => ?_⟩⟩⟩
        rw [hCT] at rwc
        rw [hOT] at rwo
        have sK : Same HJ (upd HJ W (.lst [wc, wo])) := same_new (Same.refl HJ) nW
        have hW : upd HJ W (.lst [wc, wo]) W = some (.lst [wc, wo]) := upd_same
        generalize upd HJ W (.lst [wc, wo]) = HK at sK hW
        have sGK := (sI.trans sJ).trans sK
        refine ⟨_, rfl, _, rfl, by show 2 ≤ sizeLine; decide, fun W2 nW2 => ?_⟩
        have sM : Same HK (upd HK W2 (.lst [vc, vo])) := same_new (Same.refl HK) nW2
        have hW2 : upd HK W2 (.lst [vc, vo]) W2 = some (.lst [vc, vo]) := upd_same
        generalize upd HK W2 (.lst [vc, vo]) = HM at sM hW2
        have sFM := (sG.trans sGK).trans sM
        refine ⟨_, _, rfl, AlikeX.of (.lst (sM _ _ hW) (.cons (rwc.same ((sJ.trans sK).trans sM)) (.cons (rwo.same (sK.trans sM)) .nil))) (.lst hW2 (.cons (rcF.same sFM) (.cons (roF.same sFM) .nil))) ((FineL.lst (.cons (fine_opt TC) (.cons (fine_opt TO) .nil))).mono (by decide : _ ≤ 100000) (by decide : _ ≤ 40)) (by decide) (by decide), true, rfl, iteF ?_⟩
        exact ⟨⟨_, _, _, _, _, rfl⟩, sLF.trans sFM⟩
    · rintro σ' HA ⟨⟨x5, x6, x7, x8, x9, rfl⟩, sA⟩
      refine ⟨sA _ _ hdL, ?_⟩
      have s0Z : Same H (upd HA d (.dK (keyed B.names (as.map V.ref)))) := fun a o h => by
        have ne : a ≠ d := fun z => by rw [z, nd1] at h; cases h
        rw [upd_ne ne]
        exact sA _ _ (eL _ _ ne (s03 _ _ h))
      generalize upd HA d (.dK (keyed B.names (as.map V.ref))) = HZ at s0Z
      try dsimp only
      show tRet _ _ [some (.ref p), some (.ref S), some (.ref d), some (.str kept), some (.ref F0), x5, x6, x7, x8, x9] HZ
      refine ⟨_, rfl, _, rfl, by show 2 ≤ sizeLine; decide, fun K1 nK1 => ?_⟩
      have s1Z : Same HZ (upd HZ K1 (.lst [.ref p, .ref S])) := same_new (Same.refl HZ) nK1
      have hK1 : upd HZ K1 (.lst [.ref p, .ref S]) K1 = some (.lst [.ref p, .ref S]) := upd_same
      generalize upd HZ K1 (.lst [.ref p, .ref S]) = HZ1 at s1Z hK1
      have s0Z1 := s0Z.trans s1Z
      have rK1 : Rp K HZ1 (.ref K1) (.lst [B.d, .tup (st.map D.str)]) := .lst hK1 (.cons (rp.same s0Z1) (.cons (.tup (s0Z1 _ _ hS) (rp_of_strs _)) .nil))
      refine ⟨.ref K1, _, rfl, rK1, fk.1, fk.2.1, fk.2.2, _, rfl, rfl, ?_⟩
      rw [hkept, decide_eq_true rfl]
      exact kQ HZ1 s0Z1
end
end Gy

namespace Gy
open PySem L2 PySem.Spec PyProof.Rows
/-! ### the law -/
abbrev sLaw : Stmt := top 57
def spLaw (K : PySem.W.Frag) : Sp := fun vs H Q _ => ∃ (a : Addr) (ns : List Int), vs = [.ref a] ∧ SqL K H a (ns.map V.int) ∧ ∀ H', Q (.bl true) H'
/-- a rulebook and struck rows -/
def aD (a : Bk × List Str) : D := .tup [a.1.d, .tup (a.2.map D.str)]
def AOk (a : Bk × List Str) : Prop := BOk a.1 ∧ (∀ x ∈ a.2, x ∈ menu) ∧ a.2.length ≤ 15 ∧ a.1.kinds.length ≤ 5
theorem aD_flat (a : Bk × List Str) : (aD a).flat = true := by
  have q := flat_map str_flat a.2
  unfold aD
  simp only [D.flat, D.flatAll, bk_flat] at q ⊢
  rw [q]
  rfl
theorem aD_rp {K : PySem.W.Frag} {H : Hp} {v : V} {a : Bk × List Str} (r : Rp K H v (aD a)) : ∃ t p q, v = .ref t ∧ H t = some (.tup [.ref p, .ref q]) ∧ Rp K H (.ref p) a.1.d ∧ H q = some (.tup (a.2.map V.str)) := by
  unfold aD at r
  cases r with
  | tup e r =>
    cases r with
    | cons r1 r =>
      cases r with
      | cons r2 r =>
        cases r
        cases r2 with
        | tup e2 r2 =>
          have z := rp_strs r2
          subst z
          have r1' := r1
          unfold Bk.d at r1
          cases r1 with
          | tup _ _ => exact ⟨_, _, _, rfl, e, r1', e2⟩
section
variable {P : Program} {w : World} {K : PySem.W.Frag} {mg : Str → Option Value} {base : Heap}
theorem scLaw : FnScope ["_law_script", "_law_bag_here", "_law_asked", "_law_turn", "_law_rulebook_here", "_law_struck"] ["_law_script"] (defScope sLaw) := ⟨rfl, rfl, rfl, by decide +kernel, rfl, by decide +kernel, by decide +kernel⟩
theorem ok_law {f : Addr} {fd : FuncData} (F : Fun K "law" "law" sLaw f fd) (zr : mg "range" = none) (CB : Cal P w K mg base 1 "_law_bag" ["_law_script"] (spBag K)) (CR : Cal P w K mg base 7 "_law_rulebook" ["_law_bag_here", "_law_kinds"] (spRule K)) (CM : Cal P w K mg base 2 "_law_mixed" ["_law_bag_here", "_law_things"] spMixed)
    (CSR : CalG P w K mg base NoGuardC 30 "_law_are_trees_right" ["_law_rulebook_here", "_law_struck"] (spTR K)) :
    FnG NoGuardC P w K mg base 31 f fd ["_law_script"] (spLaw K) := by
  refine fn_ofG (c := true) F scLaw (fun A h _ => h.2) (fun vs H Q E h => ?_) (fun cdv A outer s H vs Q E hG hr h => ?_)
  · obtain ⟨a, ns, rfl, _⟩ := h
    rfl
  · obtain ⟨a, ns, rfl, hS, k⟩ := h
    have nd := scLaw.nd
    have hR : Room 30 (A.deeper (envOfC "law" (defScope sLaw) s.heap.objs.size f cdv)) := ⟨hG.2, hr.dp, hr.un⟩
    have hR1 := hR.mono (by decide : 1 ≤ 30)
    have hR2 := hR.mono (by decide : 2 ≤ 30)
    have hR7 := hR.mono (by decide : 7 ≤ 30)
    have hGC : NoGuardC (A.deeper (envOfC "law" (defScope sLaw) s.heap.objs.size f cdv)) := hG
    have hz := sizeLine_eq
    refine ⟨_, pss_cons (ps_par (i := 1) (j := 2) rfl nd rfl rfl (by decide) rfl rfl (pa_cons (pe_cal CB hR1 rfl (pa_cons (pv 0) pa_nil)) (pa_cons (pe_lst pa_nil) pa_nil)) (by rfl))
      (pss_cons (ps_for PassesOwn.never rfl (pi_range1 (by rfl) zr (pa_cons pe_int pa_nil)) (pg_name (i := 3) nd rfl (Or.inl rfl))
        (pss_one (ps_expr (by exact (pe_bm PySem.F.plainAttrs_list PySem.F.slot_list_append PySem.F.type_list_append mt_append (pv 2) (pa_cons (pe_cal CR hR7 rfl (pa_cons (pv 1) (pa_cons pe_int pa_nil))) pa_nil))))))
      (pss_cons (ps_for PassesOwn.never rfl (pi_list (pe_op op_cat (pe_cal CM hR2 rfl (pa_cons (pv 1) (pa_cons (pv 2) pa_nil))) (pe_slice sl_list (pv 2) po_none (po_some pe_int)))) (pg_tup rfl (pgs_cons (pg_name (i := 4) nd rfl (Or.inl rfl)) (pgs_cons (pg_name (i := 5) nd rfl (Or.inl rfl)) pgs_nil)))
        (pss_one (ps_if (pt_not (pt_val (pe_calG CSR hr hGC rfl (pa_cons (pv 4) (pa_cons (pv 5) pa_nil))))) (pss_one (ps_ret pe_bl)) pss_nil)))
      (pss_one (ps_ret pe_bl)))), ?_⟩
    refine ⟨_, rfl, a, ns, rfl, hS, fun H1 b s1 nb ⟨c, B1⟩ => ⟨Nat.zero_le _, fun L nL => ⟨_, _, rfl, ?_⟩⟩⟩
    have Lb : L ≠ b := ne_at nL B1.hbs
    have Lc : L ≠ c := ne_at nL B1.hcs
    have s2 : Same H1 (upd H1 L (.lst [])) := same_new (Same.refl H1) nL
    have h2 : upd H1 L (.lst []) L = some (.lst []) := upd_same
    generalize upd H1 L (.lst []) = H2 at s2 h2
    have B2 := B1.same s2
    try dsimp only
    show tSeq _ _ _ [some (.ref a), some (.ref b), some (.ref L), none, none, none] H2
    refine ⟨5, rfl, by decide, by decide, for_it (walk_range (lo := 0) (n := (5 : Int).toNat)) (fun i σ' H' => (∃ x3 x4 x5, σ' = [some (.ref a), some (.ref b), some (.ref L), x3, x4, x5]) ∧ BagC c H' b ∧ ∃ ys as, H' L = some (.lst ys) ∧ RpAll K H' ys (as.map aD) ∧ (∀ x ∈ as, AOk x) ∧ as.length = i)
      ⟨⟨_, _, _, rfl⟩, B2, [], [], h2, .nil, (fun x m => absurd m List.not_mem_nil), rfl⟩ (fun _ _ _ _ _ => trivial) ?_ ?_⟩
    · rintro i x σ' H3' H3 hi ⟨⟨x3, x4, x5, rfl⟩, B3, ys, as, hL, ry, oka, las⟩ ⟨rfl, rfl⟩
      have i5 : i < 5 := hi
      have ly : ys.length = i := by rw [ry.len, List.length_map, las]
      refine ⟨_, rfl, .inl ⟨rfl, _, SqL.of hL⟩, _, rfl, b, c, 5, rfl, by decide, by decide, B3, fun t p q H4 B ss e4 B4 nt ht rp ok sm hq sk => ?_⟩
      have T34 := B3.tups e4
      have hL4 := e4 L _ Lb hL
      have ry4 := ry.tups T34 (flat_map aD_flat _)
      have okA : AOk (B, ss) := ⟨ok, fun x hx => ok.rows.mem x (sk.sub x hx), Nat.le_trans (nodup_sub sk.nd sk.sub) ok.rows.len, sm.1⟩
      refine ⟨L, ys, .ref t, rfl, rfl, hL4, by omega, ?_⟩
      have T45 : Tups H4 (upd H4 L (.lst (ys ++ [.ref t]))) := Tups.put hL4
      have hL5 : upd H4 L (.lst (ys ++ [.ref t])) L = some (.lst (ys ++ [.ref t])) := upd_same
      have B5 : BagC c (upd H4 L (.lst (ys ++ [.ref t]))) b := B4.put Lb Lc
      generalize upd H4 L (.lst (ys ++ [.ref t])) = H5 at T45 hL5 B5
      have r0 : Rp K H4 (.ref t) (aD (B, ss)) := .tup ht (.cons rp (.cons (.tup hq (rp_of_strs _)) .nil))
      refine ⟨⟨_, _, _, rfl⟩, B5, _, as ++ [(B, ss)], hL5, ?_, fun x hx => ?_, by rw [List.length_append, las, List.length_singleton]⟩
      · rw [List.map_append]
        exact (ry4.append (.cons r0 .nil)).tups T45 (by rw [← List.map_singleton (f := aD), ← List.map_append]; exact flat_map aD_flat _)
      · rcases List.mem_append.mp hx with z | z
        · exact oka x z
        · rw [List.mem_singleton.mp z]; exact okA
    · rintro σ' H3 ⟨⟨x3, x4, x5, rfl⟩, B3, ys, as, hL, ry, oka, las⟩
      have las' : as.length = 5 := las
      have ly : ys.length = 5 := by rw [ry.len, List.length_map, las']
      refine ⟨_, rfl, _, rfl, b, c, L, ys, rfl, Lb, .inl hL, by omega, B3, fun pm H4 zs e4 B4 nm hm perm => ?_⟩
      have T34 := B3.tups e4
      have hL4 := e4 L _ Lb hL
      have lz : zs.length = 5 := by rw [perm.length_eq, ly]
      refine ⟨_, rfl, _, rfl, L, ys, rfl, SqL.of hL4, fun q nq => ?_⟩
      have ec : cutV ys none (some 1) = ys.take 1 := cut_take ys 1
      rw [ec]
      have s5 : Same H4 (upd H4 q (.lst (ys.take 1))) := same_new (Same.refl H4) nq
      have h5 : upd H4 q (.lst (ys.take 1)) q = some (.lst (ys.take 1)) := upd_same
      generalize upd H4 q (.lst (ys.take 1)) = H5 at s5 h5
      refine ⟨pm, q, zs, ys.take 1, rfl, rfl, s5 _ _ hm, h5, by rw [List.length_take]; omega, fun u nu => ?_⟩
      have s6 : Same H5 (upd H5 u (.lst (zs ++ ys.take 1))) := same_new (Same.refl H5) nu
      have h6 : upd H5 u (.lst (zs ++ ys.take 1)) u = some (.lst (zs ++ ys.take 1)) := upd_same
      generalize upd H5 u (.lst (zs ++ ys.take 1)) = H6 at s6 h6
      have T36 := (T34.trans (Tups.same s5)).trans (Tups.same s6)
      have ry6 := ry.tups T36 (flat_map aD_flat _)
      refine ⟨u, rfl, ⟨_, SqL.of h6⟩, for_list (xs := zs ++ ys.take 1) (fun i σ' H' => (∃ x4 x5, σ' = [some (.ref a), some (.ref b), some (.ref L), x3, x4, x5]) ∧ Same H6 H') ⟨⟨_, _, rfl⟩, Same.refl H6⟩ (fun i σ' H' _ z => SqL.of (z.2 _ _ h6)) ?_ ?_⟩
      · rintro i x σ' H' hx ⟨⟨x4, x5, rfl⟩, s'⟩
        have hx' : x ∈ ys := by
          rcases List.mem_append.mp (List.mem_of_getElem? hx) with z | z
          · exact perm.mem_iff.mp z
          · exact List.mem_of_mem_take z
        obtain ⟨j, hj⟩ := List.getElem?_of_mem hx'
        obtain ⟨aa, haa, ra⟩ := at_of ry6 hj
        obtain ⟨ok, hmn, l15, l5⟩ := oka aa (List.mem_of_getElem? haa)
        obtain ⟨t, p, q, rfl, ht, rp, hq⟩ := aD_rp (ra.same s')
        refine ⟨t, _, rfl, SqT.of ht, rfl, _, _, rfl, _, _, rfl, rfl, ?_⟩
        refine ⟨_, rfl, _, rfl, p, q, aa.1, aa.2, rfl, rp, ok, l5, hq, hmn, l15, fun H7 s7 => ⟨true, rfl, iteF ?_⟩⟩
        exact ⟨⟨_, _, rfl⟩, s'.trans s7⟩
      · rintro σ' H' ⟨⟨x4, x5, rfl⟩, s'⟩
        exact k H'
end
end Gy

namespace Gy
open PySem L2 PySem.Spec PyProof.Rows
/-- what the law sees of the script's list: a thing that stays, if the written part has it not -/
def seen (K : PySem.W.Frag) (a : Addr) (ob : Obj) (xs : List V) : Hp := fun b => if b = a then (match K.lookup a with
  | none => some (.frz ob (.lst xs))
  | some _ => none) else none
theorem seen_some {K : PySem.W.Frag} {a b : Addr} {ob : Obj} {xs : List V} {u : HO} (h : seen K a ob xs b = some u) : b = a ∧ K.lookup a = none ∧ u = .frz ob (.lst xs) := by
  unfold seen at h
  by_cases e : b = a
  · rw [if_pos e] at h
    cases q : K.lookup a with
    | none =>
      rw [q] at h
      exact ⟨e, rfl, (Option.some.inj h).symm⟩
    | some o =>
      rw [q] at h
      cases h
  · rw [if_neg e] at h
    cases h
theorem seen_dict {K : PySem.W.Frag} {a b : Addr} {ob o : Obj} {xs : List V} {h : Heap} {its : Array Value} {n : Nat} {es : Array DictEntry} {ep : Nat} (ea : h.get? a = some ob) (da : ob.data = .seq its n) (eb : h.get? b = some o) (db : o.data = .dict es ep) : seen K a ob xs b = none := by
  cases q : seen K a ob xs b with
  | none => rfl
  | some u =>
    obtain ⟨z, _⟩ := seen_some q
    rw [z, ea] at eb
    cases eb
    rw [da] at db
    cases db
theorem hid_ns {h : Heap} {H : Hp} {b : Addr} {m : Str → Option Value} (n : ∀ {o : Obj} {es : Array DictEntry} {ep : Nat}, h.get? b = some o → o.data = .dict es ep → H b = none) (x : h.Ns b m) : (hidT h H).Ns b m := by
  obtain ⟨o, es, ep, e, d, r⟩ := x
  exact ⟨o, es, ep, hidT_get e (n e d), d, r⟩
/-- the law's call: what its promise says, at the top -/
theorem head_call {P : Program} {w : World} {K : PySem.W.Frag} {mg mb : Str → Option Value} {f a : Addr} {fd : FuncData} {s : Shared} {vs : List Value} {ns : List Int}
    (kin : K.In s.heap) (gl : s.heap.Ns mainGlobals mg) (bl : s.heap.Ns builtinsNs mb) (bb : ∀ x : Str, x ≠ "__name__" → mb x = bootBuiltins x) (lim : s.heap.NoLimit) (gn : s.gens = #[])
    (obj : s.heap.get? a = some { cls := .type "list", data := .seq vs.toArray }) (hint : IntsAre vs ns) (len : ns.length ≤ sizeLine) (bind : ∀ u : Value, BindsTo s fd ⟨[u], []⟩ [("_law_script", u)])
    (F : ∀ base : Heap, K.In base → base.Ns mainGlobals mg → FnG NoGuardC P w K mg base 31 f fd ["_law_script"] (spLaw K)) :
    codeAny (model P w) callerA (.call (.ref f) ⟨[.ref a], []⟩) (fun r s' => r = .ok (.ret (.bool true)) ∧ OldK s.heap s'.heap ∧ s'.os = s.os ∧ AllBare s'.gens) s := by
  have lv := hint.length
  have rv : Vals (ns.map V.int) vs := L2.vals_ints hint
  generalize hS : seen K a { cls := .type "list", data := .seq vs.toArray } (ns.map V.int) = S
  have back : ∀ {b : Addr} {u : HO}, S b = some u → b = a ∧ K.lookup a = none ∧ u = .frz { cls := .type "list", data := .seq vs.toArray } (.lst (ns.map V.int)) := fun {b u} z => seen_some (by rw [hS]; exact z)
  have dct : ∀ {b : Addr} {o : Obj} {es : Array DictEntry} {ep : Nat}, s.heap.get? b = some o → o.data = .dict es ep → S b = none := fun e d => by
    rw [← hS]
    exact seen_dict obj rfl e d
  have ok : HOk P w S s.heap := fun b u z => by
    obtain ⟨rfl, _, rfl⟩ := back z
    exact ⟨obj, by rw [List.length_map]; exact len, vs, _, rv, obj⟩
  have list : SqL K S a (ns.map V.int) := by
    cases q : K.lookup a with
    | none => exact .inl (.inr ⟨_, by rw [← hS]; unfold seen; rw [if_pos rfl, q]⟩)
    | some o =>
      have e := kin a o q
      rw [obj] at e
      cases e
      exact .inr ⟨_, vs.toArray, _, q, rfl, rfl, rfl, by rw [List.size_toArray, lv]; exact len, rv⟩
  have kin' : K.In (hidT s.heap S) := fun b o e => hidT_get (kin b o e) (by
    cases q : S b with
    | none => rfl
    | some u =>
      obtain ⟨rfl, z, _⟩ := back q
      rw [e] at z
      cases z)
  obtain ⟨ml, l1, l2⟩ := lim
  have gl' : (hidT s.heap S).Ns mainGlobals mg := hid_ns dct gl
  have md : Mod K mg (hidT s.heap S) := {
    kin := kin'
    glob := gl'
    blt := ⟨mb, hid_ns dct bl, bb⟩
    nolimit := ⟨ml, hid_ns dct l1, l2⟩ }
  have none_in : ∀ b : Addr, b ∈ frs [] → S b = none := fun b hb => absurd (show b ∈ ([] : List Addr) from hb) List.not_mem_nil
  have en : Env0 P w K mg (hidT s.heap S) callerA [] s S := {
    frames := rfl
    mod := md
    bs := fun b o e => of_hidT e
    bsz := Nat.le_of_eq (hidT_size _ _)
    funs := trivial
    frf := none_in
    hok := ok
    bare := .of_eq gn }
  have room : RoomH 31 callerA := ⟨by decide, by decide⟩
  refine codeAny_mono ((F _ kin' gl').run callerA [] s S ⟨[.ref a], []⟩ [.ref a] [.ref a] (fun v _ => v = .bl true) (fun _ _ _ => False) room ⟨rfl, rfl⟩ en (bind (.ref a)) (.cons rfl .nil) ⟨a, ns, rfl, list, fun _ => rfl⟩) ?_
  intro r s' z
  match r, z with
  | .ok (.ret u), z =>
    obtain ⟨v, S', os, br, un, ok', rv', ev⟩ := z
    have e : v = .bl true := ev
    rw [e] at rv'
    have eu : u = Value.bool true := rv'
    refine ⟨by rw [eu], .of_keep fun b o g => ?_, os, br⟩
    cases q : S b with
    | none => exact un.keep b o g q (fun y => absurd (show b ∈ ([] : List Addr) from y) List.not_mem_nil) List.not_mem_nil
    | some t =>
      obtain ⟨rfl, _, rfl⟩ := back q
      have q' := un.frzs _ _ _ q
      have g1 := (ok _ _ q).1
      have g2 := (ok' _ _ q').1
      rw [g1] at g
      cases g
      exact g2
end Gy

namespace Gy
open PySem L2 PySem.Spec PyProof.Rows
/-! ### what the program's top has left, told as truths -/
def exB (K : PySem.W.Frag) (C : Addr) : Bool :=
  (decide (PySem.W.findIn K (.ref C) "__setattr__" = some (some (.builtin "object.__setattr__"))) && decide (PySem.W.subIn K (.ref C) (.type "BaseException") = some true) && decide (PySem.W.typeIn K (.ref C) = some (.type "type")) && PySem.W.keepIn K (.ref C)) &&
  (decide (PySem.W.findIn K (.ref C) "__getattribute__" = some (some (.builtin "BaseException.__getattribute__"))) && decide (PySem.W.findIn K (.ref C) "__getattr__" = some none) && PySem.W.hasDictIn K C && decide (PySem.W.findIn K (.ref C) "__class__" = some (some (.builtin "object.__class__")))) &&
  (decide (PySem.W.specialIn K (.builtin "object.__class__") "__get__" = some (some (.builtin "getset_descriptor.__get__"))) && decide (PySem.W.takesIn K (.builtin "object.__class__") = some true) && decide (PySem.W.mroIn K C (.type "object") = some true))
def Shape (K : PySem.W.Frag) (C : Addr) : Prop := ∃ nm q N bs bm sn sub ab col dd k0 k1 k2 k3 k5, K.lookup C = some (excClassObj nm q C N bs bm true sn sub ab col dd k0 k1 k2 k3 k5 "ValueError.__new__") ∧ PySem.HandSPX.refsVE bm = true
theorem exq_of {K : PySem.W.Frag} {C : Addr} (h : Shape K C) (b : exB K C = true) : ExQ K C := by
  unfold exB at b
  simp only [Bool.and_eq_true, decide_eq_true_eq] at b
  obtain ⟨⟨⟨⟨⟨b1, b2⟩, b3⟩, b4⟩, ⟨⟨b5, b6⟩, b7⟩, b8⟩, ⟨b9, b10⟩, b11⟩ := b
  exact ⟨⟨h, b1, b2, b3, b4⟩, b5, b6, b7, b8, b9, b10, b11⟩
section
variable {P : Program} {w : World} {K : PySem.W.Frag} {mg : Str → Option Value} {base : Heap}
theorem all_mk {h : Heap} {fa G : Addr} (X : K.In h) (G' : h.Ns mainGlobals mg) (hfa : mg "law" = some (.ref fa))
    {C0 : Addr} {nm0 q0 : Str} {N0 : Addr} {bs0 : List Value} {sn0 : List Str} {sub0 : List Value} {ab0 : Bool} {col0 : Option Bool} {dd0 : Option Addr} {u0 v0 w0 x0 y0 : Option Value}
    {f0 : Addr} {od0 an0 : Option Addr} {sl0 : Array (Option Value)} {oc0 kV0 dc0 pm0 cd0 ct0 : Value}
    {tkR : Tok}
    {fIi : Addr} {odIi anIi : Option Addr} {slIi : Array (Option Value)} {ocIi kVIi dcIi pmIi cdIi ctIi : Value}
    {fKo : Addr} {odKo anKo : Option Addr} {slKo : Array (Option Value)} {ocKo kVKo dcKo pmKo cdKo ctKo : Value}
    {fGo : Addr} {odGo anGo : Option Addr} {slGo : Array (Option Value)} {ocGo kVGo dcGo pmGo cdGo ctGo : Value}
    {fMe : Addr} {odMe anMe : Option Addr} {slMe : Array (Option Value)} {ocMe kVMe dcMe pmMe cdMe ctMe : Value}
    {fGk : Addr} {odGk anGk : Option Addr} {slGk : Array (Option Value)} {ocGk kVGk dcGk pmGk cdGk ctGk : Value}
    {fIb : Addr} {odIb anIb : Option Addr} {slIb : Array (Option Value)} {ocIb kVIb dcIb pmIb cdIb ctIb : Value}
    {fBk : Addr} {odBk anBk : Option Addr} {slBk : Array (Option Value)} {ocBk kVBk dcBk pmBk cdBk ctBk : Value}
    {fLo : Addr} {odLo anLo : Option Addr} {slLo : Array (Option Value)} {ocLo kVLo dcLo pmLo cdLo ctLo : Value}
    {fLg : Addr} {odLg anLg : Option Addr} {slLg : Array (Option Value)} {ocLg kVLg dcLg pmLg cdLg ctLg : Value}
    {fOs : Addr} {odOs anOs : Option Addr} {slOs : Array (Option Value)} {ocOs kVOs dcOs pmOs cdOs ctOs : Value}
    {fIc : Addr} {odIc anIc : Option Addr} {slIc : Array (Option Value)} {ocIc kVIc dcIc pmIc cdIc ctIc : Value}
    {fPb : Addr} {odPb anPb : Option Addr} {slPb : Array (Option Value)} {ocPb kVPb dcPb pmPb cdPb ctPb : Value}
    {fCts : Addr} {odCts anCts : Option Addr} {slCts : Array (Option Value)} {ocCts kVCts dcCts pmCts cdCts ctCts : Value}
    {fCt : Addr} {odCt anCt : Option Addr} {slCt : Array (Option Value)} {ocCt kVCt dcCt pmCt cdCt ctCt : Value}
    {fOp : Addr} {odOp anOp : Option Addr} {slOp : Array (Option Value)} {ocOp kVOp dcOp pmOp cdOp ctOp : Value}
    {fOts : Addr} {odOts anOts : Option Addr} {slOts : Array (Option Value)} {ocOts kVOts dcOts pmOts cdOts ctOts : Value}
    {fOt : Addr} {odOt anOt : Option Addr} {slOt : Array (Option Value)} {ocOt kVOt dcOt pmOt cdOt ctOt : Value}
    {fIt : Addr} {odIt anIt : Option Addr} {slIt : Array (Option Value)} {ocIt kVIt dcIt pmIt cdIt ctIt : Value}
    {fRi : Addr} {odRi anRi : Option Addr} {slRi : Array (Option Value)} {ocRi kVRi dcRi pmRi cdRi ctRi : Value}
    {fIct : Addr} {odIct anIct : Option Addr} {slIct : Array (Option Value)} {ocIct kVIct dcIct pmIct cdIct ctIct : Value}
    {fIot : Addr} {odIot anIot : Option Addr} {slIot : Array (Option Value)} {ocIot kVIot dcIot pmIot cdIot ctIot : Value}
    {fLe : Addr} {odLe anLe : Option Addr} {slLe : Array (Option Value)} {ocLe kVLe dcLe pmLe cdLe ctLe : Value}
    {fB : Addr} {odB anB : Option Addr} {slB : Array (Option Value)} {ocB kVB dcB pmB cdB ctB : Value}
    {fT : Addr} {odT anT : Option Addr} {slT : Array (Option Value)} {ocT kVT dcT pmT cdT ctT : Value}
    {fS : Addr} {odS anS : Option Addr} {slS : Array (Option Value)} {ocS kVS dcS pmS cdS ctS : Value}
    {fA : Addr} {odA anA : Option Addr} {slA : Array (Option Value)} {ocA kVA dcA pmA cdA ctA : Value}
    {fM : Addr} {odM anM : Option Addr} {slM : Array (Option Value)} {ocM kVM dcM pmM cdM ctM : Value}
    {fNa : Addr} {odNa anNa : Option Addr} {slNa : Array (Option Value)} {ocNa kVNa dcNa pmNa cdNa ctNa : Value}
    {fNb : Addr} {odNb anNb : Option Addr} {slNb : Array (Option Value)} {ocNb kVNb dcNb pmNb cdNb ctNb : Value}
    {fNd : Addr} {odNd anNd : Option Addr} {slNd : Array (Option Value)} {ocNd kVNd dcNd pmNd cdNd ctNd : Value}
    {fGr : Addr} {odGr anGr : Option Addr} {slGr : Array (Option Value)} {ocGr kVGr dcGr pmGr cdGr ctGr : Value}
    {fAn : Addr} {odAn anAn : Option Addr} {slAn : Array (Option Value)} {ocAn kVAn dcAn pmAn cdAn ctAn : Value}
    {fPl : Addr} {odPl anPl : Option Addr} {slPl : Array (Option Value)} {ocPl kVPl dcPl pmPl cdPl ctPl : Value}
    {fMo : Addr} {odMo anMo : Option Addr} {slMo : Array (Option Value)} {ocMo kVMo dcMo pmMo cdMo ctMo : Value}
    {fTh : Addr} {odTh anTh : Option Addr} {slTh : Array (Option Value)} {ocTh kVTh dcTh pmTh cdTh ctTh : Value}
    {fRu : Addr} {odRu anRu : Option Addr} {slRu : Array (Option Value)} {ocRu kVRu dcRu pmRu cdRu ctRu : Value}
    {fKf : Addr} {odKf anKf : Option Addr} {slKf : Array (Option Value)} {ocKf kVKf dcKf pmKf cdKf ctKf : Value}
    {fBe : Addr} {odBe anBe : Option Addr} {slBe : Array (Option Value)} {ocBe kVBe dcBe pmBe cdBe ctBe : Value}
    {fIm : Addr} {odIm anIm : Option Addr} {slIm : Array (Option Value)} {ocIm kVIm dcIm pmIm cdIm ctIm : Value}
    {fLi : Addr} {odLi anLi : Option Addr} {slLi : Array (Option Value)} {ocLi kVLi dcLi pmLi cdLi ctLi : Value}
    {fLl : Addr} {odLl anLl : Option Addr} {slLl : Array (Option Value)} {ocLl kVLl dcLl pmLl cdLl ctLl : Value}
    {fTr : Addr} {odTr anTr : Option Addr} {slTr : Array (Option Value)} {ocTr kVTr dcTr pmTr cdTr ctTr : Value}
    {fItl : Addr} {odItl anItl : Option Addr} {slItl : Array (Option Value)} {ocItl kVItl dcItl pmItl cdItl ctItl : Value}
    {fSo : Addr} {odSo anSo : Option Addr} {slSo : Array (Option Value)} {ocSo kVSo dcSo pmSo cdSo ctSo : Value}
    {fLv : Addr} {odLv anLv : Option Addr} {slLv : Array (Option Value)} {ocLv kVLv dcLv pmLv cdLv ctLv : Value}
    {fIw : Addr} {odIw anIw : Option Addr} {slIw : Array (Option Value)} {ocIw kVIw dcIw pmIw cdIw ctIw : Value}
    {fTt : Addr} {odTt anTt : Option Addr} {slTt : Array (Option Value)} {ocTt kVTt dcTt pmTt cdTt ctTt : Value}
    {fAr : Addr} {odAr anAr : Option Addr} {slAr : Array (Option Value)} {ocAr kVAr dcAr pmAr cdAr ctAr : Value}
    {fL : Addr} {odL anL : Option Addr} {slL : Array (Option Value)} {ocL kVL dcL pmL cdL ctL : Value}
    (gG : PySem.W.nsIn K mainGlobals "GoneError" = some (some (.ref G)))
    (rG : PySem.W.readsIn K G (.type "type") = true) (sG : PySem.W.specialIn K (.ref G) "__getattribute__" = some (some (.builtin "type.__getattribute__"))) (iG : PySem.W.findCls K (.ref G) (.type "type") "__init__" = some (.val (.builtin "ValueError.__init__")))
    (a0 : PySem.W.nsIn K mainGlobals "NoKind" = some (some (.ref C0)))
    (x0L : K.lookup C0 = some (excClassObj nm0 q0 C0 N0 bs0 [.ref G, .type "ValueError", .type "Exception", .type "BaseException", .type "object"] true sn0 sub0 ab0 col0 dd0 u0 v0 w0 x0 y0 "ValueError.__new__"))
    (j0 : PySem.W.findIn K (.ref C0) "__init__" = some (some (.ref f0)))
    (t0 : PySem.W.typeIn K (.ref f0) = some (.type "function"))
    (l0 : K.lookup f0 = some ⟨oc0, od0, .func (PySem.W.fnOf "__init__" "NoKind.__init__" (defArgs (sIni 4)) (defBody (sIni 4)) (defScope (sIni 4)) .none kV0 dc0 pm0 an0 cd0 ct0), sl0⟩) (c0 : PySem.W.codeIn K cd0 "NoKind.__init__" = true) (k0 : PySem.W.keepIn K (.ref f0) = true)
    (n0name : PySem.W.findIn K (.ref C0) "name" = some none)
    (gROW : PySem.W.nsIn K mainGlobals "ROW" = some (some (.str "row" tkR)))
    (aIi : PySem.W.nsIn K mainGlobals "is_integer" = some (some (.ref fIi)))
    (lIi : K.lookup fIi = some ⟨ocIi, odIi, .func (PySem.W.fnOf "is_integer" "is_integer" (defArgs sIsInt) (defBody sIsInt) (defScope sIsInt) .none kVIi dcIi pmIi anIi cdIi ctIi), slIi⟩) (cIi : PySem.W.codeIn K cdIi "is_integer" = true) (kIi : PySem.W.keepIn K (.ref fIi) = true)
    (aKo : PySem.W.nsIn K mainGlobals "kind_of" = some (some (.ref fKo)))
    (lKo : K.lookup fKo = some ⟨ocKo, odKo, .func (PySem.W.fnOf "kind_of" "kind_of" (defArgs sKof) (defBody sKof) (defScope sKof) .none kVKo dcKo pmKo anKo cdKo ctKo), slKo⟩) (cKo : PySem.W.codeIn K cdKo "kind_of" = true) (kKo : PySem.W.keepIn K (.ref fKo) = true)
    (aGo : PySem.W.nsIn K mainGlobals "grounds_of" = some (some (.ref fGo)))
    (lGo : K.lookup fGo = some ⟨ocGo, odGo, .func (PySem.W.fnOf "grounds_of" "grounds_of" (defArgs sGrounds) (defBody sGrounds) (defScope sGrounds) .none kVGo dcGo pmGo anGo cdGo ctGo), slGo⟩) (cGo : PySem.W.codeIn K cdGo "grounds_of" = true) (kGo : PySem.W.keepIn K (.ref fGo) = true)
    (aMe : PySem.W.nsIn K mainGlobals "can_be_met" = some (some (.ref fMe)))
    (lMe : K.lookup fMe = some ⟨ocMe, odMe, .func (PySem.W.fnOf "can_be_met" "can_be_met" (defArgs sMet) (defBody sMet) (defScope sMet) .none kVMe dcMe pmMe anMe cdMe ctMe), slMe⟩) (cMe : PySem.W.codeIn K cdMe "can_be_met" = true) (kMe : PySem.W.keepIn K (.ref fMe) = true)
    (aGk : PySem.W.nsIn K mainGlobals "grown_kinds" = some (some (.ref fGk)))
    (lGk : K.lookup fGk = some ⟨ocGk, odGk, .func (PySem.W.fnOf "grown_kinds" "grown_kinds" (defArgs sGrown) (defBody sGrown) (defScope sGrown) .none kVGk dcGk pmGk anGk cdGk ctGk), slGk⟩) (cGk : PySem.W.codeIn K cdGk "grown_kinds" = true) (kGk : PySem.W.keepIn K (.ref fGk) = true)
    (aIb : PySem.W.nsIn K mainGlobals "is_bearing_by" = some (some (.ref fIb)))
    (lIb : K.lookup fIb = some ⟨ocIb, odIb, .func (PySem.W.fnOf "is_bearing_by" "is_bearing_by" (defArgs sBear) (defBody sBear) (defScope sBear) .none kVIb dcIb pmIb anIb cdIb ctIb), slIb⟩) (cIb : PySem.W.codeIn K cdIb "is_bearing_by" = true) (kIb : PySem.W.keepIn K (.ref fIb) = true)
    (aBk : PySem.W.nsIn K mainGlobals "bearing_kinds" = some (some (.ref fBk)))
    (lBk : K.lookup fBk = some ⟨ocBk, odBk, .func (PySem.W.fnOf "bearing_kinds" "bearing_kinds" (defArgs sBearK) (defBody sBearK) (defScope sBearK) .none kVBk dcBk pmBk anBk cdBk ctBk), slBk⟩) (cBk : PySem.W.codeIn K cdBk "bearing_kinds" = true) (kBk : PySem.W.keepIn K (.ref fBk) = true)
    (aLo : PySem.W.nsIn K mainGlobals "live_of" = some (some (.ref fLo)))
    (lLo : K.lookup fLo = some ⟨ocLo, odLo, .func (PySem.W.fnOf "live_of" "live_of" (defArgs sLiveOf) (defBody sLiveOf) (defScope sLiveOf) .none kVLo dcLo pmLo anLo cdLo ctLo), slLo⟩) (cLo : PySem.W.codeIn K cdLo "live_of" = true) (kLo : PySem.W.keepIn K (.ref fLo) = true)
    (aLg : PySem.W.nsIn K mainGlobals "live_grounds" = some (some (.ref fLg)))
    (lLg : K.lookup fLg = some ⟨ocLg, odLg, .func (PySem.W.fnOf "live_grounds" "live_grounds" (defArgs sLiveG) (defBody sLiveG) (defScope sLiveG) .none kVLg dcLg pmLg anLg cdLg ctLg), slLg⟩) (cLg : PySem.W.codeIn K cdLg "live_grounds" = true) (kLg : PySem.W.keepIn K (.ref fLg) = true)
    (aOs : PySem.W.nsIn K mainGlobals "is_on_struck" = some (some (.ref fOs)))
    (lOs : K.lookup fOs = some ⟨ocOs, odOs, .func (PySem.W.fnOf "is_on_struck" "is_on_struck" (defArgs sOnS) (defBody sOnS) (defScope sOnS) .none kVOs dcOs pmOs anOs cdOs ctOs), slOs⟩) (cOs : PySem.W.codeIn K cdOs "is_on_struck" = true) (kOs : PySem.W.keepIn K (.ref fOs) = true)
    (aIc : PySem.W.nsIn K mainGlobals "is_clean_by" = some (some (.ref fIc)))
    (lIc : K.lookup fIc = some ⟨ocIc, odIc, .func (PySem.W.fnOf "is_clean_by" "is_clean_by" (defArgs sClean) (defBody sClean) (defScope sClean) .none kVIc dcIc pmIc anIc cdIc ctIc), slIc⟩) (cIc : PySem.W.codeIn K cdIc "is_clean_by" = true) (kIc : PySem.W.keepIn K (.ref fIc) = true)
    (aPb : PySem.W.nsIn K mainGlobals "parts_by" = some (some (.ref fPb)))
    (lPb : K.lookup fPb = some ⟨ocPb, odPb, .func (PySem.W.fnOf "parts_by" "parts_by" (defArgs sPartsBy) (defBody sPartsBy) (defScope sPartsBy) .none kVPb dcPb pmPb anPb cdPb ctPb), slPb⟩) (cPb : PySem.W.codeIn K cdPb "parts_by" = true) (kPb : PySem.W.keepIn K (.ref fPb) = true)
    (aCts : PySem.W.nsIn K mainGlobals "clean_trees" = some (some (.ref fCts)))
    (lCts : K.lookup fCts = some ⟨ocCts, odCts, .func (PySem.W.fnOf "clean_trees" "clean_trees" (defArgs sCleanTs) (defBody sCleanTs) (defScope sCleanTs) .none kVCts dcCts pmCts anCts cdCts ctCts), slCts⟩) (cCts : PySem.W.codeIn K cdCts "clean_trees" = true) (kCts : PySem.W.keepIn K (.ref fCts) = true)
    (aCt : PySem.W.nsIn K mainGlobals "clean_tree" = some (some (.ref fCt)))
    (lCt : K.lookup fCt = some ⟨ocCt, odCt, .func (PySem.W.fnOf "clean_tree" "clean_tree" (defArgs sCleanT) (defBody sCleanT) (defScope sCleanT) .none kVCt dcCt pmCt anCt cdCt ctCt), slCt⟩) (cCt : PySem.W.codeIn K cdCt "clean_tree" = true) (kCt : PySem.W.keepIn K (.ref fCt) = true)
    (aOp : PySem.W.nsIn K mainGlobals "old_parts" = some (some (.ref fOp)))
    (lOp : K.lookup fOp = some ⟨ocOp, odOp, .func (PySem.W.fnOf "old_parts" "old_parts" (defArgs sOldParts) (defBody sOldParts) (defScope sOldParts) .none kVOp dcOp pmOp anOp cdOp ctOp), slOp⟩) (cOp : PySem.W.codeIn K cdOp "old_parts" = true) (kOp : PySem.W.keepIn K (.ref fOp) = true)
    (aOts : PySem.W.nsIn K mainGlobals "old_trees" = some (some (.ref fOts)))
    (lOts : K.lookup fOts = some ⟨ocOts, odOts, .func (PySem.W.fnOf "old_trees" "old_trees" (defArgs sOldTs) (defBody sOldTs) (defScope sOldTs) .none kVOts dcOts pmOts anOts cdOts ctOts), slOts⟩) (cOts : PySem.W.codeIn K cdOts "old_trees" = true) (kOts : PySem.W.keepIn K (.ref fOts) = true)
    (aOt : PySem.W.nsIn K mainGlobals "old_tree" = some (some (.ref fOt)))
    (lOt : K.lookup fOt = some ⟨ocOt, odOt, .func (PySem.W.fnOf "old_tree" "old_tree" (defArgs sOldT) (defBody sOldT) (defScope sOldT) .none kVOt dcOt pmOt anOt cdOt ctOt), slOt⟩) (cOt : PySem.W.codeIn K cdOt "old_tree" = true) (kOt : PySem.W.keepIn K (.ref fOt) = true)
    (aIt : PySem.W.nsIn K mainGlobals "is_tree" = some (some (.ref fIt)))
    (lIt : K.lookup fIt = some ⟨ocIt, odIt, .func (PySem.W.fnOf "is_tree" "is_tree" (defArgs sIsTree) (defBody sIsTree) (defScope sIsTree) .none kVIt dcIt pmIt anIt cdIt ctIt), slIt⟩) (cIt : PySem.W.codeIn K cdIt "is_tree" = true) (kIt : PySem.W.keepIn K (.ref fIt) = true)
    (aRi : PySem.W.nsIn K mainGlobals "rows_in" = some (some (.ref fRi)))
    (lRi : K.lookup fRi = some ⟨ocRi, odRi, .func (PySem.W.fnOf "rows_in" "rows_in" (defArgs sRowsIn) (defBody sRowsIn) (defScope sRowsIn) .none kVRi dcRi pmRi anRi cdRi ctRi), slRi⟩) (cRi : PySem.W.codeIn K cdRi "rows_in" = true) (kRi : PySem.W.keepIn K (.ref fRi) = true)
    (aIct : PySem.W.nsIn K mainGlobals "is_clean_tree" = some (some (.ref fIct)))
    (lIct : K.lookup fIct = some ⟨ocIct, odIct, .func (PySem.W.fnOf "is_clean_tree" "is_clean_tree" (defArgs sIsClean) (defBody sIsClean) (defScope sIsClean) .none kVIct dcIct pmIct anIct cdIct ctIct), slIct⟩) (cIct : PySem.W.codeIn K cdIct "is_clean_tree" = true) (kIct : PySem.W.keepIn K (.ref fIct) = true)
    (aIot : PySem.W.nsIn K mainGlobals "is_old_tree" = some (some (.ref fIot)))
    (lIot : K.lookup fIot = some ⟨ocIot, odIot, .func (PySem.W.fnOf "is_old_tree" "is_old_tree" (defArgs sIsOld) (defBody sIsOld) (defScope sIsOld) .none kVIot dcIot pmIot anIot cdIot ctIot), slIot⟩) (cIot : PySem.W.codeIn K cdIot "is_old_tree" = true) (kIot : PySem.W.keepIn K (.ref fIot) = true)
    (aLe : PySem.W.nsIn K mainGlobals "levels_of" = some (some (.ref fLe)))
    (lLe : K.lookup fLe = some ⟨ocLe, odLe, .func (PySem.W.fnOf "levels_of" "levels_of" (defArgs sLevels) (defBody sLevels) (defScope sLevels) .none kVLe dcLe pmLe anLe cdLe ctLe), slLe⟩) (cLe : PySem.W.codeIn K cdLe "levels_of" = true) (kLe : PySem.W.keepIn K (.ref fLe) = true)
    (aB : PySem.W.nsIn K mainGlobals "_law_bag" = some (some (.ref fB)))
    (lB : K.lookup fB = some ⟨ocB, odB, .func (PySem.W.fnOf "_law_bag" "_law_bag" (defArgs sBag) (defBody sBag) (defScope sBag) .none kVB dcB pmB anB cdB ctB), slB⟩) (cB : PySem.W.codeIn K cdB "_law_bag" = true) (kB : PySem.W.keepIn K (.ref fB) = true)
    (aT : PySem.W.nsIn K mainGlobals "_law_take" = some (some (.ref fT)))
    (lT : K.lookup fT = some ⟨ocT, odT, .func (PySem.W.fnOf "_law_take" "_law_take" (defArgs sTake) (defBody sTake) (defScope sTake) .none kVT dcT pmT anT cdT ctT), slT⟩) (cT : PySem.W.codeIn K cdT "_law_take" = true) (kT : PySem.W.keepIn K (.ref fT) = true)
    (aS : PySem.W.nsIn K mainGlobals "_law_some" = some (some (.ref fS)))
    (lS : K.lookup fS = some ⟨ocS, odS, .func (PySem.W.fnOf "_law_some" "_law_some" (defArgs sSome) (defBody sSome) (defScope sSome) .none kVS dcS pmS anS cdS ctS), slS⟩) (cS : PySem.W.codeIn K cdS "_law_some" = true) (kS : PySem.W.keepIn K (.ref fS) = true)
    (aA : PySem.W.nsIn K mainGlobals "_law_alike" = some (some (.ref fA)))
    (lA : K.lookup fA = some ⟨ocA, odA, .func (PySem.W.fnOf "_law_alike" "_law_alike" (defArgs sAlike) (defBody sAlike) (defScope sAlike) .none kVA dcA pmA anA cdA ctA), slA⟩) (cA : PySem.W.codeIn K cdA "_law_alike" = true) (kA : PySem.W.keepIn K (.ref fA) = true)
    (aM : PySem.W.nsIn K mainGlobals "_law_mixed" = some (some (.ref fM)))
    (lM : K.lookup fM = some ⟨ocM, odM, .func (PySem.W.fnOf "_law_mixed" "_law_mixed" (defArgs sMixed) (defBody sMixed) (defScope sMixed) .none kVM dcM pmM anM cdM ctM), slM⟩) (cM : PySem.W.codeIn K cdM "_law_mixed" = true) (kM : PySem.W.keepIn K (.ref fM) = true)
    (aNa : PySem.W.nsIn K mainGlobals "_law_named" = some (some (.ref fNa)))
    (lNa : K.lookup fNa = some ⟨ocNa, odNa, .func (PySem.W.fnOf "_law_named" "_law_named" (defArgs sNamed) (defBody sNamed) (defScope sNamed) .none kVNa dcNa pmNa anNa cdNa ctNa), slNa⟩) (cNa : PySem.W.codeIn K cdNa "_law_named" = true) (kNa : PySem.W.keepIn K (.ref fNa) = true)
    (aNb : PySem.W.nsIn K mainGlobals "_law_numbers" = some (some (.ref fNb)))
    (lNb : K.lookup fNb = some ⟨ocNb, odNb, .func (PySem.W.fnOf "_law_numbers" "_law_numbers" (defArgs sNumbers) (defBody sNumbers) (defScope sNumbers) .none kVNb dcNb pmNb anNb cdNb ctNb), slNb⟩) (cNb : PySem.W.codeIn K cdNb "_law_numbers" = true) (kNb : PySem.W.keepIn K (.ref fNb) = true)
    (aNd : PySem.W.nsIn K mainGlobals "_law_need" = some (some (.ref fNd)))
    (lNd : K.lookup fNd = some ⟨ocNd, odNd, .func (PySem.W.fnOf "_law_need" "_law_need" (defArgs sNeed) (defBody sNeed) (defScope sNeed) .none kVNd dcNd pmNd anNd cdNd ctNd), slNd⟩) (cNd : PySem.W.codeIn K cdNd "_law_need" = true) (kNd : PySem.W.keepIn K (.ref fNd) = true)
    (aGr : PySem.W.nsIn K mainGlobals "_law_ground" = some (some (.ref fGr)))
    (lGr : K.lookup fGr = some ⟨ocGr, odGr, .func (PySem.W.fnOf "_law_ground" "_law_ground" (defArgs sGround) (defBody sGround) (defScope sGround) .none kVGr dcGr pmGr anGr cdGr ctGr), slGr⟩) (cGr : PySem.W.codeIn K cdGr "_law_ground" = true) (kGr : PySem.W.keepIn K (.ref fGr) = true)
    (aAn : PySem.W.nsIn K mainGlobals "_law_any_rulebook" = some (some (.ref fAn)))
    (lAn : K.lookup fAn = some ⟨ocAn, odAn, .func (PySem.W.fnOf "_law_any_rulebook" "_law_any_rulebook" (defArgs sAny) (defBody sAny) (defScope sAny) .none kVAn dcAn pmAn anAn cdAn ctAn), slAn⟩) (cAn : PySem.W.codeIn K cdAn "_law_any_rulebook" = true) (kAn : PySem.W.keepIn K (.ref fAn) = true)
    (aPl : PySem.W.nsIn K mainGlobals "_law_planted" = some (some (.ref fPl)))
    (lPl : K.lookup fPl = some ⟨ocPl, odPl, .func (PySem.W.fnOf "_law_planted" "_law_planted" (defArgs sPlanted) (defBody sPlanted) (defScope sPlanted) .none kVPl dcPl pmPl anPl cdPl ctPl), slPl⟩) (cPl : PySem.W.codeIn K cdPl "_law_planted" = true) (kPl : PySem.W.keepIn K (.ref fPl) = true)
    (aMo : PySem.W.nsIn K mainGlobals "_law_more_needs" = some (some (.ref fMo)))
    (lMo : K.lookup fMo = some ⟨ocMo, odMo, .func (PySem.W.fnOf "_law_more_needs" "_law_more_needs" (defArgs sMore) (defBody sMore) (defScope sMore) .none kVMo dcMo pmMo anMo cdMo ctMo), slMo⟩) (cMo : PySem.W.codeIn K cdMo "_law_more_needs" = true) (kMo : PySem.W.keepIn K (.ref fMo) = true)
    (aTh : PySem.W.nsIn K mainGlobals "_law_threaded" = some (some (.ref fTh)))
    (lTh : K.lookup fTh = some ⟨ocTh, odTh, .func (PySem.W.fnOf "_law_threaded" "_law_threaded" (defArgs sThreaded) (defBody sThreaded) (defScope sThreaded) .none kVTh dcTh pmTh anTh cdTh ctTh), slTh⟩) (cTh : PySem.W.codeIn K cdTh "_law_threaded" = true) (kTh : PySem.W.keepIn K (.ref fTh) = true)
    (aRu : PySem.W.nsIn K mainGlobals "_law_rulebook" = some (some (.ref fRu)))
    (lRu : K.lookup fRu = some ⟨ocRu, odRu, .func (PySem.W.fnOf "_law_rulebook" "_law_rulebook" (defArgs sRule) (defBody sRule) (defScope sRule) .none kVRu dcRu pmRu anRu cdRu ctRu), slRu⟩) (cRu : PySem.W.codeIn K cdRu "_law_rulebook" = true) (kRu : PySem.W.keepIn K (.ref fRu) = true)
    (aKf : PySem.W.nsIn K mainGlobals "_law_kinds_of" = some (some (.ref fKf)))
    (lKf : K.lookup fKf = some ⟨ocKf, odKf, .func (PySem.W.fnOf "_law_kinds_of" "_law_kinds_of" (defArgs sKindsOf) (defBody sKindsOf) (defScope sKindsOf) .none kVKf dcKf pmKf anKf cdKf ctKf), slKf⟩) (cKf : PySem.W.codeIn K cdKf "_law_kinds_of" = true) (kKf : PySem.W.keepIn K (.ref fKf) = true)
    (aBe : PySem.W.nsIn K mainGlobals "_law_bearing" = some (some (.ref fBe)))
    (lBe : K.lookup fBe = some ⟨ocBe, odBe, .func (PySem.W.fnOf "_law_bearing" "_law_bearing" (defArgs sBearing) (defBody sBearing) (defScope sBearing) .none kVBe dcBe pmBe anBe cdBe ctBe), slBe⟩) (cBe : PySem.W.codeIn K cdBe "_law_bearing" = true) (kBe : PySem.W.keepIn K (.ref fBe) = true)
    (aIm : PySem.W.nsIn K mainGlobals "_law_is_met" = some (some (.ref fIm)))
    (lIm : K.lookup fIm = some ⟨ocIm, odIm, .func (PySem.W.fnOf "_law_is_met" "_law_is_met" (defArgs sIsMet) (defBody sIsMet) (defScope sIsMet) .none kVIm dcIm pmIm anIm cdIm ctIm), slIm⟩) (cIm : PySem.W.codeIn K cdIm "_law_is_met" = true) (kIm : PySem.W.keepIn K (.ref fIm) = true)
    (aLi : PySem.W.nsIn K mainGlobals "_law_live" = some (some (.ref fLi)))
    (lLi : K.lookup fLi = some ⟨ocLi, odLi, .func (PySem.W.fnOf "_law_live" "_law_live" (defArgs sLive) (defBody sLive) (defScope sLive) .none kVLi dcLi pmLi anLi cdLi ctLi), slLi⟩) (cLi : PySem.W.codeIn K cdLi "_law_live" = true) (kLi : PySem.W.keepIn K (.ref fLi) = true)
    (aLl : PySem.W.nsIn K mainGlobals "_law_levels" = some (some (.ref fLl)))
    (lLl : K.lookup fLl = some ⟨ocLl, odLl, .func (PySem.W.fnOf "_law_levels" "_law_levels" (defArgs sLevelsL) (defBody sLevelsL) (defScope sLevelsL) .none kVLl dcLl pmLl anLl cdLl ctLl), slLl⟩) (cLl : PySem.W.codeIn K cdLl "_law_levels" = true) (kLl : PySem.W.keepIn K (.ref fLl) = true)
    (aTr : PySem.W.nsIn K mainGlobals "_law_tree_rows" = some (some (.ref fTr)))
    (lTr : K.lookup fTr = some ⟨ocTr, odTr, .func (PySem.W.fnOf "_law_tree_rows" "_law_tree_rows" (defArgs sTreeRows) (defBody sTreeRows) (defScope sTreeRows) .none kVTr dcTr pmTr anTr cdTr ctTr), slTr⟩) (cTr : PySem.W.codeIn K cdTr "_law_tree_rows" = true) (kTr : PySem.W.keepIn K (.ref fTr) = true)
    (aItl : PySem.W.nsIn K mainGlobals "_law_is_tree" = some (some (.ref fItl)))
    (lItl : K.lookup fItl = some ⟨ocItl, odItl, .func (PySem.W.fnOf "_law_is_tree" "_law_is_tree" (defArgs sIsTreeL) (defBody sIsTreeL) (defScope sIsTreeL) .none kVItl dcItl pmItl anItl cdItl ctItl), slItl⟩) (cItl : PySem.W.codeIn K cdItl "_law_is_tree" = true) (kItl : PySem.W.keepIn K (.ref fItl) = true)
    (aSo : PySem.W.nsIn K mainGlobals "_law_is_sort_of_tree" = some (some (.ref fSo)))
    (lSo : K.lookup fSo = some ⟨ocSo, odSo, .func (PySem.W.fnOf "_law_is_sort_of_tree" "_law_is_sort_of_tree" (defArgs sSortL) (defBody sSortL) (defScope sSortL) .none kVSo dcSo pmSo anSo cdSo ctSo), slSo⟩) (cSo : PySem.W.codeIn K cdSo "_law_is_sort_of_tree" = true) (kSo : PySem.W.keepIn K (.ref fSo) = true)
    (aLv : PySem.W.nsIn K mainGlobals "_law_least_levels" = some (some (.ref fLv)))
    (lLv : K.lookup fLv = some ⟨ocLv, odLv, .func (PySem.W.fnOf "_law_least_levels" "_law_least_levels" (defArgs sLeast) (defBody sLeast) (defScope sLeast) .none kVLv dcLv pmLv anLv cdLv ctLv), slLv⟩) (cLv : PySem.W.codeIn K cdLv "_law_least_levels" = true) (kLv : PySem.W.keepIn K (.ref fLv) = true)
    (aIw : PySem.W.nsIn K mainGlobals "_law_is_whole" = some (some (.ref fIw)))
    (lIw : K.lookup fIw = some ⟨ocIw, odIw, .func (PySem.W.fnOf "_law_is_whole" "_law_is_whole" (defArgs sIsWhole) (defBody sIsWhole) (defScope sIsWhole) .none kVIw dcIw pmIw anIw cdIw ctIw), slIw⟩) (cIw : PySem.W.codeIn K cdIw "_law_is_whole" = true) (kIw : PySem.W.keepIn K (.ref fIw) = true)
    (aTt : PySem.W.nsIn K mainGlobals "_law_is_told_tree" = some (some (.ref fTt)))
    (lTt : K.lookup fTt = some ⟨ocTt, odTt, .func (PySem.W.fnOf "_law_is_told_tree" "_law_is_told_tree" (defArgs sToldT) (defBody sToldT) (defScope sToldT) .none kVTt dcTt pmTt anTt cdTt ctTt), slTt⟩) (cTt : PySem.W.codeIn K cdTt "_law_is_told_tree" = true) (kTt : PySem.W.keepIn K (.ref fTt) = true)
    (aAr : PySem.W.nsIn K mainGlobals "_law_are_trees_right" = some (some (.ref fAr)))
    (lAr : K.lookup fAr = some ⟨ocAr, odAr, .func (PySem.W.fnOf "_law_are_trees_right" "_law_are_trees_right" (defArgs sTR) (defBody sTR) (defScope sTR) .none kVAr dcAr pmAr anAr cdAr ctAr), slAr⟩) (cAr : PySem.W.codeIn K cdAr "_law_are_trees_right" = true) (kAr : PySem.W.keepIn K (.ref fAr) = true)
    (aL : PySem.W.nsIn K mainGlobals "law" = some (some (.ref fL)))
    (lL : K.lookup fL = some ⟨ocL, odL, .func (PySem.W.fnOf "law" "law" (defArgs sLaw) (defBody sLaw) (defScope sLaw) .none kVL dcL pmL anL cdL ctL), slL⟩) (cL : PySem.W.codeIn K cdL "law" = true) (kL : PySem.W.keepIn K (.ref fL) = true)
    (zint : PySem.W.nsIn K mainGlobals "int" = some none)
    (zabs : PySem.W.nsIn K mainGlobals "abs" = some none)
    (zlen : PySem.W.nsIn K mainGlobals "len" = some none)
    (zrepr : PySem.W.nsIn K mainGlobals "repr" = some none)
    (zrange : PySem.W.nsIn K mainGlobals "range" = some none)
    (zlist : PySem.W.nsIn K mainGlobals "list" = some none)
    (ztuple : PySem.W.nsIn K mainGlobals "tuple" = some none)
    (zsorted : PySem.W.nsIn K mainGlobals "sorted" = some none)
    (zset : PySem.W.nsIn K mainGlobals "set" = some none)
    (zdict : PySem.W.nsIn K mainGlobals "dict" = some none)
    (zenumerate : PySem.W.nsIn K mainGlobals "enumerate" = some none)
    (zany : PySem.W.nsIn K mainGlobals "any" = some none)
    (zall : PySem.W.nsIn K mainGlobals "all" = some none)
    (zzip : PySem.W.nsIn K mainGlobals "zip" = some none)
    (zmax : PySem.W.nsIn K mainGlobals "max" = some none)
    (zmin : PySem.W.nsIn K mainGlobals "min" = some none)
    (zisinstance : PySem.W.nsIn K mainGlobals "isinstance" = some none)
    (zstr : PySem.W.nsIn K mainGlobals "str" = some none)
    (zbool : PySem.W.nsIn K mainGlobals "bool" = some none)
    (bX : exB K C0 = true) :
    ∃ fd : FuncData, (∀ (s : Shared) (v : Value), BindsTo s fd ⟨[v], []⟩ [("_law_script", v)]) ∧ ∀ base : Heap, K.In base → base.Ns mainGlobals mg → FnG NoGuardC P w K mg base 31 fa fd ["_law_script"] (spLaw K) := by
  have e := hfa.symm.trans (PySem.W.mg_of X G' aL)
  cases e
  have m : ∀ {x : Str} {v : Value}, PySem.W.nsIn K mainGlobals x = some (some v) → mg x = some v := fun q => PySem.W.mg_of X G' q
  have z : ∀ {x : Str}, PySem.W.nsIn K mainGlobals x = some none → mg x = none := fun q => PySem.W.mg_none_of X G' q
  have TE : ErrC K mg G := ⟨m gG, rG, sG, iG⟩
  have E0' : ExQ K C0 := exq_of ⟨nm0, q0, N0, bs0, _, sn0, sub0, ab0, col0, dd0, u0, v0, w0, x0, y0, x0L, rfl⟩ bX
  have F0 := fun_mk (st := sIni 4) l0 c0 k0
  have B0 := F0.binds (ps := ["self", "name"]) fun _ _ _ _ _ _ us hl => match us, hl with | [_, _], _ => rfl
  have FIi := fun_mk (st := sIsInt) lIi cIi kIi
  have BIi := FIi.binds (ps := ["thing"]) fun _ _ _ _ _ _ us hl => match us, hl with | [_], _ => rfl
  have FKo := fun_mk (st := sKof) lKo cKo kKo
  have BKo := FKo.binds (ps := ["rulebook", "name"]) fun _ _ _ _ _ _ us hl => match us, hl with | [_, _], _ => rfl
  have FGo := fun_mk (st := sGrounds) lGo cGo kGo
  have BGo := FGo.binds (ps := ["rulebook", "name"]) fun _ _ _ _ _ _ us hl => match us, hl with | [_, _], _ => rfl
  have FMe := fun_mk (st := sMet) lMe cMe kMe
  have BMe := FMe.binds (ps := ["rulebook", "need", "names"]) fun _ _ _ _ _ _ us hl => match us, hl with | [_, _, _], _ => rfl
  have FGk := fun_mk (st := sGrown) lGk cGk kGk
  have BGk := FGk.binds (ps := ["rulebook", "is_right", "given"]) fun _ _ _ _ _ _ us hl => match us, hl with | [_, _, _], _ => rfl
  have FIb := fun_mk (st := sBear) lIb cIb kIb
  have BIb := FIb.binds (ps := ["rulebook", "ground", "found", "given"]) fun _ _ _ _ _ _ us hl => match us, hl with | [_, _, _, _], _ => rfl
  have FBk := fun_mk (st := sBearK) lBk cBk kBk
  have BBk := FBk.binds (ps := ["rulebook"]) fun _ _ _ _ _ _ us hl => match us, hl with | [_], _ => rfl
  have FLo := fun_mk (st := sLiveOf) lLo cLo kLo
  have BLo := FLo.binds (ps := ["rulebook", "grounds", "bearing"]) fun _ _ _ _ _ _ us hl => match us, hl with | [_, _, _], _ => rfl
  have FLg := fun_mk (st := sLiveG) lLg cLg kLg
  have BLg := FLg.binds (ps := ["rulebook", "name"]) fun _ _ _ _ _ _ us hl => match us, hl with | [_, _], _ => rfl
  have FOs := fun_mk (st := sOnS) lOs cOs kOs
  have BOs := FOs.binds (ps := ["need", "struck"]) fun _ _ _ _ _ _ us hl => match us, hl with | [_, _], _ => rfl
  have FIc := fun_mk (st := sClean) lIc cIc kIc
  have BIc := FIc.binds (ps := ["rulebook", "ground", "found", "struck"]) fun _ _ _ _ _ _ us hl => match us, hl with | [_, _, _, _], _ => rfl
  have FPb := fun_mk (st := sPartsBy) lPb cPb kPb
  have BPb := FPb.binds (ps := ["ground", "trees"]) fun _ _ _ _ _ _ us hl => match us, hl with | [_, _], _ => rfl
  have FCts := fun_mk (st := sCleanTs) lCts cCts kCts
  have BCts := FCts.binds (ps := ["rulebook", "struck"]) fun _ _ _ _ _ _ us hl => match us, hl with | [_, _], _ => rfl
  have FCt := fun_mk (st := sCleanT) lCt cCt kCt
  have BCt := FCt.binds (ps := ["rulebook", "struck", "name"]) fun _ _ _ _ _ _ us hl => match us, hl with | [_, _, _], _ => rfl
  have FOp := fun_mk (st := sOldParts) lOp cOp kOp
  have BOp := FOp.binds (ps := ["ground", "struck", "trees", "olds"]) fun _ _ _ _ _ _ us hl => match us, hl with | [_, _, _, _], _ => rfl
  have FOts := fun_mk (st := sOldTs) lOts cOts kOts
  have BOts := FOts.binds (ps := ["rulebook", "struck"]) fun _ _ _ _ _ _ us hl => match us, hl with | [_, _], _ => rfl
  have FOt := fun_mk (st := sOldT) lOt cOt kOt
  have BOt := FOt.binds (ps := ["rulebook", "struck", "name"]) fun _ _ _ _ _ _ us hl => match us, hl with | [_, _, _], _ => rfl
  have FIt := fun_mk (st := sIsTree) lIt cIt kIt
  have BIt := FIt.binds (ps := ["rulebook", "name", "thing"]) fun _ _ _ _ _ _ us hl => match us, hl with | [_, _, _], _ => rfl
  have FRi := fun_mk (st := sRowsIn) lRi cRi kRi
  have BRi := FRi.binds (ps := ["rulebook", "tree"]) fun _ _ _ _ _ _ us hl => match us, hl with | [_, _], _ => rfl
  have FIct := fun_mk (st := sIsClean) lIct cIct kIct
  have BIct := FIct.binds (ps := ["rulebook", "struck", "name", "thing"]) fun _ _ _ _ _ _ us hl => match us, hl with | [_, _, _, _], _ => rfl
  have FIot := fun_mk (st := sIsOld) lIot cIot kIot
  have BIot := FIot.binds (ps := ["rulebook", "struck", "name", "thing"]) fun _ _ _ _ _ _ us hl => match us, hl with | [_, _, _, _], _ => rfl
  have FLe := fun_mk (st := sLevels) lLe cLe kLe
  have BLe := FLe.binds (ps := ["tree"]) fun _ _ _ _ _ _ us hl => match us, hl with | [_], _ => rfl
  have FB := fun_mk (st := sBag) lB cB kB
  have BB := FB.binds (ps := ["_law_script"]) fun _ _ _ _ _ _ us hl => match us, hl with | [_], _ => rfl
  have FT := fun_mk (st := sTake) lT cT kT
  have BT := FT.binds (ps := ["_law_bag_here", "_law_upto"]) fun _ _ _ _ _ _ us hl => match us, hl with | [_, _], _ => rfl
  have FS := fun_mk (st := sSome) lS cS kS
  have BS := FS.binds (ps := ["_law_bag_here", "_law_things"]) fun _ _ _ _ _ _ us hl => match us, hl with | [_, _], _ => rfl
  have FA := fun_mk (st := sAlike) lA cA kA
  have BA := FA.binds (ps := ["_law_found", "_law_due"]) fun _ _ _ _ _ _ us hl => match us, hl with | [_, _], _ => rfl
  have FM := fun_mk (st := sMixed) lM cM kM
  have BM := FM.binds (ps := ["_law_bag_here", "_law_things"]) fun _ _ _ _ _ _ us hl => match us, hl with | [_, _], _ => rfl
  have FNa := fun_mk (st := sNamed) lNa cNa kNa
  have BNa := FNa.binds (ps := ["_law_bag_here", "_law_many"]) fun _ _ _ _ _ _ us hl => match us, hl with | [_, _], _ => rfl
  have FNb := fun_mk (st := sNumbers) lNb cNb kNb
  have BNb := FNb.binds (ps := ["_law_bag_here"]) fun _ _ _ _ _ _ us hl => match us, hl with | [_], _ => rfl
  have FNd := fun_mk (st := sNeed) lNd cNd kNd
  have BNd := FNd.binds (ps := ["_law_bag_here", "_law_rows", "_law_names"]) fun _ _ _ _ _ _ us hl => match us, hl with | [_, _, _], _ => rfl
  have FGr := fun_mk (st := sGround) lGr cGr kGr
  have BGr := FGr.binds (ps := ["_law_bag_here", "_law_rows", "_law_names"]) fun _ _ _ _ _ _ us hl => match us, hl with | [_, _, _], _ => rfl
  have FAn := fun_mk (st := sAny) lAn cAn kAn
  have BAn := FAn.binds (ps := ["_law_bag_here", "_law_kinds", "_law_rows"]) fun _ _ _ _ _ _ us hl => match us, hl with | [_, _, _], _ => rfl
  have FPl := fun_mk (st := sPlanted) lPl cPl kPl
  have BPl := FPl.binds (ps := ["_law_bag_here", "_law_sort", "_law_kinds"]) fun _ _ _ _ _ _ us hl => match us, hl with | [_, _, _], _ => rfl
  have FMo := fun_mk (st := sMore) lMo cMo kMo
  have BMo := FMo.binds (ps := ["_law_bag_here", "_law_sort", "_law_rows"]) fun _ _ _ _ _ _ us hl => match us, hl with | [_, _, _], _ => rfl
  have FTh := fun_mk (st := sThreaded) lTh cTh kTh
  have BTh := FTh.binds (ps := ["_law_bag_here", "_law_kinds"]) fun _ _ _ _ _ _ us hl => match us, hl with | [_, _], _ => rfl
  have FRu := fun_mk (st := sRule) lRu cRu kRu
  have BRu := FRu.binds (ps := ["_law_bag_here", "_law_kinds"]) fun _ _ _ _ _ _ us hl => match us, hl with | [_, _], _ => rfl
  have FKf := fun_mk (st := sKindsOf) lKf cKf kKf
  have BKf := FKf.binds (ps := ["_law_rulebook_here"]) fun _ _ _ _ _ _ us hl => match us, hl with | [_], _ => rfl
  have FBe := fun_mk (st := sBearing) lBe cBe kBe
  have BBe := FBe.binds (ps := ["_law_rulebook_here"]) fun _ _ _ _ _ _ us hl => match us, hl with | [_], _ => rfl
  have FIm := fun_mk (st := sIsMet) lIm cIm kIm
  have BIm := FIm.binds (ps := ["_law_kinds", "_law_found", "_law_ground_here"]) fun _ _ _ _ _ _ us hl => match us, hl with | [_, _, _], _ => rfl
  have FLi := fun_mk (st := sLive) lLi cLi kLi
  have BLi := FLi.binds (ps := ["_law_rulebook_here"]) fun _ _ _ _ _ _ us hl => match us, hl with | [_], _ => rfl
  have FLl := fun_mk (st := sLevelsL) lLl cLl kLl
  have BLl := FLl.binds (ps := ["_law_tree"]) fun _ _ _ _ _ _ us hl => match us, hl with | [_], _ => rfl
  have FTr := fun_mk (st := sTreeRows) lTr cTr kTr
  have BTr := FTr.binds (ps := ["_law_rulebook_here", "_law_tree"]) fun _ _ _ _ _ _ us hl => match us, hl with | [_, _], _ => rfl
  have FItl := fun_mk (st := sIsTreeL) lItl cItl kItl
  have BItl := FItl.binds (ps := ["_law_rulebook_here", "_law_live_here", "_law_name", "_law_thing"]) fun _ _ _ _ _ _ us hl => match us, hl with | [_, _, _, _], _ => rfl
  have FSo := fun_mk (st := sSortL) lSo cSo kSo
  have BSo := FSo.binds (ps := ["_law_rulebook_here", "_law_struck", "_law_live_here", "_law_name", "_law_thing", "_law_is_old"]) fun _ _ _ _ _ _ us hl => match us, hl with | [_, _, _, _, _, _], _ => rfl
  have FLv := fun_mk (st := sLeast) lLv cLv kLv
  have BLv := FLv.binds (ps := ["_law_rulebook_here", "_law_struck", "_law_live_here"]) fun _ _ _ _ _ _ us hl => match us, hl with | [_, _, _], _ => rfl
  have FIw := fun_mk (st := sIsWhole) lIw cIw kIw
  have BIw := FIw.binds (ps := ["_law_thing"]) fun _ _ _ _ _ _ us hl => match us, hl with | [_], _ => rfl
  have FTt := fun_mk (st := sToldT) lTt cTt kTt
  have BTt := FTt.binds (ps := ["_law_rulebook_here", "_law_struck", "_law_live_here", "_law_name", "_law_told", "_law_due", "_law_is_old"]) fun _ _ _ _ _ _ us hl => match us, hl with | [_, _, _, _, _, _, _], _ => rfl
  have FAr := fun_mk (st := sTR) lAr cAr kAr
  have BAr := FAr.binds (ps := ["_law_rulebook_here", "_law_struck"]) fun _ _ _ _ _ _ us hl => match us, hl with | [_, _], _ => rfl
  have TA : TxtA mg := ⟨z zint, z zabs, z zlen⟩
  have TB : TxtB K mg fT := ⟨TA, m aT, kT⟩
  have TG := (⟨TB, m aS, BS, kS⟩ : TxtG K mg fT fS _)
  have TO : TxtO mg := ⟨z ztuple, z zsorted, z zset, z zrange⟩
  refine ⟨PySem.W.fnOf "law" "law" (defArgs sLaw) (defBody sLaw) (defScope sLaw) .none kVL dcL pmL anL cdL ctL, fun s v => .of_eq rfl, fun base _ _ => ?_⟩
  have M0 : Mk1 P w K mg base "NoKind" C0 "name" := ⟨m a0, E0', n0name, f0, _, j0, t0, ok_ini_NoKind F0 TE E0'.oex n0name, B0⟩
  have GB : FnOk P w K mg base CX0 1 fB _ ["_law_script"] (spBag K) := ok_bag FB TA
  have CB : Cal P w K mg base 1 "_law_bag" ["_law_script"] (spBag K) := ⟨fB, _, m aB, BB, kB, GB⟩
  have GT : FnOk P w K mg base CX0 1 fT _ ["_law_bag_here", "_law_upto"] spTake := ok_take FT TA
  have CT : Cal P w K mg base 1 "_law_take" ["_law_bag_here", "_law_upto"] spTake := ⟨fT, _, m aT, BT, kT, GT⟩
  have GS : FnOk P w K mg base CX0 2 fS _ ["_law_bag_here", "_law_things"] (spSome K) := ok_some FS TB FT BT
  have CS : Cal P w K mg base 2 "_law_some" ["_law_bag_here", "_law_things"] (spSome K) := ⟨fS, _, m aS, BS, kS, GS⟩
  have GM : FnOk P w K mg base CX0 2 fM _ ["_law_bag_here", "_law_things"] spMixed := ok_mixed FM TB FT BT
  have CM : Cal P w K mg base 2 "_law_mixed" ["_law_bag_here", "_law_things"] spMixed := ⟨fM, _, m aM, BM, kM, GM⟩
  have GNa : FnOk P w K mg base CX0 3 fNa _ ["_law_bag_here", "_law_many"] spNamed := ok_named FNa ⟨TB, m aM, BM, kM, z ztuple, z zsorted⟩ GM
  have CNa : Cal P w K mg base 3 "_law_named" ["_law_bag_here", "_law_many"] spNamed := ⟨fNa, _, m aNa, BNa, kNa, GNa⟩
  have GNb : FnOk P w K mg base CX0 3 fNb _ ["_law_bag_here"] spNumbers := ok_numbers FNb TG GS GT BT
  have CNb : Cal P w K mg base 3 "_law_numbers" ["_law_bag_here"] spNumbers := ⟨fNb, _, m aNb, BNb, kNb, GNb⟩
  have GNd : FnOk P w K mg base CX0 4 fNd _ ["_law_bag_here", "_law_rows", "_law_names"] (spNeed K) := ok_need FNd ⟨TG, BT, m aNb, BNb, kNb⟩ GS GT GNb
  have CNd : Cal P w K mg base 4 "_law_need" ["_law_bag_here", "_law_rows", "_law_names"] (spNeed K) := ⟨fNd, _, m aNd, BNd, kNd, GNd⟩
  have GGr : FnOk P w K mg base CX0 5 fGr _ ["_law_bag_here", "_law_rows", "_law_names"] (spGround K) := ok_ground FGr TG TO GS (m aNd) BNd kNd GNd
  have CGr : Cal P w K mg base 5 "_law_ground" ["_law_bag_here", "_law_rows", "_law_names"] (spGround K) := ⟨fGr, _, m aGr, BGr, kGr, GGr⟩
  have GAn : FnOk P w K mg base CX0 6 fAn _ ["_law_bag_here", "_law_kinds", "_law_rows"] (spAny K) := ok_any FAn TG TO GS GT BT (m aNa) BNa kNa GNa (m aGr) BGr kGr GGr
  have CAn : Cal P w K mg base 6 "_law_any_rulebook" ["_law_bag_here", "_law_kinds", "_law_rows"] (spAny K) := ⟨fAn, _, m aAn, BAn, kAn, GAn⟩
  have GMo : FnOk P w K mg base CX0 3 fMo _ ["_law_bag_here", "_law_sort", "_law_rows"] (spMore K) := ok_more FMo TG GS GT BT
  have CMo : Cal P w K mg base 3 "_law_more_needs" ["_law_bag_here", "_law_sort", "_law_rows"] (spMore K) := ⟨fMo, _, m aMo, BMo, kMo, GMo⟩
  have GTh : FnOk P w K mg base CX0 4 fTh _ ["_law_bag_here", "_law_kinds"] (spThreaded K) := ok_threaded FTh TG TO (z zdict) GS GT BT (m aNa) BNa kNa GNa (m aM) BM kM GM
  have CTh : Cal P w K mg base 4 "_law_threaded" ["_law_bag_here", "_law_kinds"] (spThreaded K) := ⟨fTh, _, m aTh, BTh, kTh, GTh⟩
  have GPl : FnOk P w K mg base CX0 6 fPl _ ["_law_bag_here", "_law_sort", "_law_kinds"] (spPlanted K) := ok_planted FPl TG TO (z zlist) GS GT BT (m aNa) BNa kNa GNa (m aMo) BMo kMo GMo (m aGr) BGr kGr GGr
  have CPl : Cal P w K mg base 6 "_law_planted" ["_law_bag_here", "_law_sort", "_law_kinds"] (spPlanted K) := ⟨fPl, _, m aPl, BPl, kPl, GPl⟩
  have GRu : FnOk P w K mg base CX0 7 fRu _ ["_law_bag_here", "_law_kinds"] (spRule K) := ok_rule FRu TO CT CS CM CAn CTh CPl
  have CRu : Cal P w K mg base 7 "_law_rulebook" ["_law_bag_here", "_law_kinds"] (spRule K) := ⟨fRu, _, m aRu, BRu, kRu, GRu⟩
  have GIi : FnOk P w K mg base CX0 1 fIi _ ["thing"] spIsInt := ok_isInt FIi (z zisinstance) (z zint) (z zbool)
  have CIi : Cal P w K mg base 1 "is_integer" ["thing"] spIsInt := ⟨fIi, _, m aIi, BIi, kIi, GIi⟩
  have GKo : FnOk P w K mg base (L2.CX P w) 3 fKo _ ["rulebook", "name"] (spKof K C0) := ok_kof FKo M0
  have CKo : CalX P w K mg base 3 "kind_of" ["rulebook", "name"] (spKof K C0) := ⟨fKo, _, m aKo, BKo, kKo, GKo⟩
  have GGo : FnOk P w K mg base CX0 4 fGo _ ["rulebook", "name"] (spGrounds K) := ok_grounds FGo CKo
  have CGo : Cal P w K mg base 4 "grounds_of" ["rulebook", "name"] (spGrounds K) := ⟨fGo, _, m aGo, BGo, kGo, GGo⟩
  have GMe : FnOk P w K mg base CX0 4 fMe _ ["rulebook", "need", "names"] (spMet K) := ok_met FMe (m gROW) CKo
  have CMe : Cal P w K mg base 4 "can_be_met" ["rulebook", "need", "names"] (spMet K) := ⟨fMe, _, m aMe, BMe, kMe, GMe⟩
  have GIb : FnOk P w K mg base CX0 5 fIb _ ["rulebook", "ground", "found", "given"] (spBear K) := ok_bear FIb (z zall) CMe
  have CIb : Cal P w K mg base 5 "is_bearing_by" ["rulebook", "ground", "found", "given"] (spBear K) := ⟨fIb, _, m aIb, BIb, kIb, GIb⟩
  have GOs : FnOk P w K mg base CX0 1 fOs _ ["need", "struck"] (spOnS K) := ok_onS FOs (m gROW)
  have COs : Cal P w K mg base 1 "is_on_struck" ["need", "struck"] (spOnS K) := ⟨fOs, _, m aOs, BOs, kOs, GOs⟩
  have GIc : FnOk P w K mg base CX0 6 fIc _ ["rulebook", "ground", "found", "struck"] (spClean K) := ok_clean FIc (z zany) CIb COs
  have CIc : Cal P w K mg base 6 "is_clean_by" ["rulebook", "ground", "found", "struck"] (spClean K) := ⟨fIc, _, m aIc, BIc, kIc, GIc⟩
  have GGk : FnOk P w K mg base CX0 7 fGk _ ["rulebook", "is_right", "given"] (spGrown P w K mg base) := ok_grown FGk (z zany) (z ztuple) (z zsorted)
  have CGk : Cal P w K mg base 7 "grown_kinds" ["rulebook", "is_right", "given"] (spGrown P w K mg base) := ⟨fGk, _, m aGk, BGk, kGk, GGk⟩
  have GBk : FnOk P w K mg base CX0 8 fBk _ ["rulebook"] (spBearK K) := ok_bearK (fr := fBk) FBk CGk CIb
  have CBk : Cal P w K mg base 8 "bearing_kinds" ["rulebook"] (spBearK K) := ⟨fBk, _, m aBk, BBk, kBk, GBk⟩
  have GLo : FnOk P w K mg base CX0 5 fLo _ ["rulebook", "grounds", "bearing"] (spLiveOf K) := ok_liveOf FLo (z zenumerate) (z zall) CMe
  have CLo : Cal P w K mg base 5 "live_of" ["rulebook", "grounds", "bearing"] (spLiveOf K) := ⟨fLo, _, m aLo, BLo, kLo, GLo⟩
  have GLg : FnOk P w K mg base CX0 9 fLg _ ["rulebook", "name"] (spLiveG K) := ok_liveG FLg CLo CGo CBk
  have CLg : Cal P w K mg base 9 "live_grounds" ["rulebook", "name"] (spLiveG K) := ⟨fLg, _, m aLg, BLg, kLg, GLg⟩
  have GPb : FnOk P w K mg base CX0 1 fPb _ ["ground", "trees"] (spPartsBy K) := ok_partsBy FPb (m gROW) (z ztuple)
  have CPb : Cal P w K mg base 1 "parts_by" ["ground", "trees"] (spPartsBy K) := ⟨fPb, _, m aPb, BPb, kPb, GPb⟩
  have GCts : FnOk P w K mg base CX0 7 fCts _ ["rulebook", "struck"] (spCleanTs K) := ok_cleanTs FCts (z zenumerate) CIc CPb
  have CCts : Cal P w K mg base 7 "clean_trees" ["rulebook", "struck"] (spCleanTs K) := ⟨fCts, _, m aCts, BCts, kCts, GCts⟩
  have GCt : FnOk P w K mg base CX0 8 fCt _ ["rulebook", "struck", "name"] (spCleanT K) := ok_cleanT FCt CCts
  have CCt : Cal P w K mg base 8 "clean_tree" ["rulebook", "struck", "name"] (spCleanT K) := ⟨fCt, _, m aCt, BCt, kCt, GCt⟩
  have GOp : FnOk P w K mg base CX0 2 fOp _ ["ground", "struck", "trees", "olds"] (spOldParts K) := ok_oldParts FOp (m gROW) (z zenumerate) (z zany) CPb COs
  have COp : Cal P w K mg base 2 "old_parts" ["ground", "struck", "trees", "olds"] (spOldParts K) := ⟨fOp, _, m aOp, BOp, kOp, GOp⟩
  have GOts : FnOk P w K mg base CX0 6 fOts _ ["rulebook", "struck"] (spOldTs K) := ok_oldTs FOts CLo COp CPb
  have COts : Cal P w K mg base 6 "old_trees" ["rulebook", "struck"] (spOldTs K) := ⟨fOts, _, m aOts, BOts, kOts, GOts⟩
  have GOt : FnOk P w K mg base CX0 7 fOt _ ["rulebook", "struck", "name"] (spOldT K) := ok_oldT FOt COts
  have COt : Cal P w K mg base 7 "old_tree" ["rulebook", "struck", "name"] (spOldT K) := ⟨fOt, _, m aOt, BOt, kOt, GOt⟩
  have GIt : FnOk P w K mg base CX0 28 fIt _ ["rulebook", "name", "thing"] (spIsTree K 18) := ok_isTree FIt (m aIt) BIt kIt (m gROW) (z zisinstance) (z zlen) (z ztuple) (z zstr) (z zzip) CIi CLg CGo 18
  have CIt : Cal P w K mg base 28 "is_tree" ["rulebook", "name", "thing"] (spIsTree K 18) := ⟨fIt, _, m aIt, BIt, kIt, GIt⟩
  have GRi : FnOk P w K mg base CX0 5 fRi _ ["rulebook", "tree"] (spRowsIn K) := ok_rowsIn FRi (m gROW) (z zzip) CGo
  have CRi : Cal P w K mg base 5 "rows_in" ["rulebook", "tree"] (spRowsIn K) := ⟨fRi, _, m aRi, BRi, kRi, GRi⟩
  have GIct : FnOk P w K mg base CX0 29 fIct _ ["rulebook", "struck", "name", "thing"] (spIsSort K true) := ok_isClean FIct (z zany) CIt CRi
  have CIct : Cal P w K mg base 29 "is_clean_tree" ["rulebook", "struck", "name", "thing"] (spIsSort K true) := ⟨fIct, _, m aIct, BIct, kIct, GIct⟩
  have GIot : FnOk P w K mg base CX0 29 fIot _ ["rulebook", "struck", "name", "thing"] (spIsSort K false) := ok_isOld FIot (z zany) CIt CRi
  have CIot : Cal P w K mg base 29 "is_old_tree" ["rulebook", "struck", "name", "thing"] (spIsSort K false) := ⟨fIot, _, m aIot, BIot, kIot, GIot⟩
  have GLe : FnOk P w K mg base CX0 19 fLe _ ["tree"] (spLevels K 18) := ok_levels FLe (m aLe) BLe kLe (z zmax) 18
  have CLe : Cal P w K mg base 19 "levels_of" ["tree"] (spLevels K 18) := ⟨fLe, _, m aLe, BLe, kLe, GLe⟩
  have GKf : FnOk P w K mg base CX0 1 fKf _ ["_law_rulebook_here"] (spKindsOf K) := ok_kindsOf FKf (z zdict)
  have CKf : Cal P w K mg base 1 "_law_kinds_of" ["_law_rulebook_here"] (spKindsOf K) := ⟨fKf, _, m aKf, BKf, kKf, GKf⟩
  have GIm : FnOk P w K mg base CX0 1 fIm _ ["_law_kinds", "_law_found", "_law_ground_here"] (spIsMet K) := ok_isMet FIm
  have CIm : Cal P w K mg base 1 "_law_is_met" ["_law_kinds", "_law_found", "_law_ground_here"] (spIsMet K) := ⟨fIm, _, m aIm, BIm, kIm, GIm⟩
  have GBe : FnOk P w K mg base CX0 2 fBe _ ["_law_rulebook_here"] (spBearing K) := ok_bearing FBe (z zrange) (z zlen) (z zsorted) CKf CIm
  have CBe : Cal P w K mg base 2 "_law_bearing" ["_law_rulebook_here"] (spBearing K) := ⟨fBe, _, m aBe, BBe, kBe, GBe⟩
  have GLi : FnOk P w K mg base CX0 3 fLi _ ["_law_rulebook_here"] (spLive K) := ok_live FLi (z zrange) (z zlen) (z zsorted) CKf CIm CBe
  have CLi : Cal P w K mg base 3 "_law_live" ["_law_rulebook_here"] (spLive K) := ⟨fLi, _, m aLi, BLi, kLi, GLi⟩
  have GLl : FnOk P w K mg base CX0 19 fLl _ ["_law_tree"] (spLevels K 18) := ok_levelsL FLl (m aLl) BLl kLl (z zmax) 18
  have CLl : Cal P w K mg base 19 "_law_levels" ["_law_tree"] (spLevels K 18) := ⟨fLl, _, m aLl, BLl, kLl, GLl⟩
  have GTr : FnOk P w K mg base CX0 20 fTr _ ["_law_rulebook_here", "_law_tree"] (spTreeRows K 18) := ok_treeRows FTr (m aTr) BTr kTr (z zzip) CKf 18
  have CTr : Cal P w K mg base 20 "_law_tree_rows" ["_law_rulebook_here", "_law_tree"] (spTreeRows K 18) := ⟨fTr, _, m aTr, BTr, kTr, GTr⟩
  have GIw : FnOk P w K mg base CX0 1 fIw _ ["_law_thing"] spIsInt := ok_isWhole FIw (z zisinstance) (z zint) (z zbool)
  have CIw : Cal P w K mg base 1 "_law_is_whole" ["_law_thing"] spIsInt := ⟨fIw, _, m aIw, BIw, kIw, GIw⟩
  have GLv : FnOk P w K mg base CX0 2 fLv _ ["_law_rulebook_here", "_law_struck", "_law_live_here"] (spLeast K) := ok_least FLv (z zdict) (z zrange) (z zlen) (z zsorted) (z zmax) (z zmin) (z zint) CKf
  have CLv : Cal P w K mg base 2 "_law_least_levels" ["_law_rulebook_here", "_law_struck", "_law_live_here"] (spLeast K) := ⟨fLv, _, m aLv, BLv, kLv, GLv⟩
  have CA : CalG P w K mg base NoGuard 1 "_law_alike" ["_law_found", "_law_due"] (spAlikeX K) := ⟨fA, _, m aA, BA, kA, ok_alikeX FA (z zrepr)⟩
  have CItl : CalG P w K mg base NoGuardC 20 "_law_is_tree" ["_law_rulebook_here", "_law_live_here", "_law_name", "_law_thing"] (spIsTreeL K 18) := ⟨fItl, _, m aItl, BItl, kItl, ok_isTreeL FItl (m aItl) BItl kItl (z zisinstance) (z zlen) (z ztuple) (z zzip) CIw CKf CA 18⟩
  have CSo : CalG P w K mg base NoGuardC 21 "_law_is_sort_of_tree" ["_law_rulebook_here", "_law_struck", "_law_live_here", "_law_name", "_law_thing", "_law_is_old"] (spSortL K) := ⟨fSo, _, m aSo, BSo, kSo, ok_sortL FSo CItl CTr⟩
  have CTt : CalG P w K mg base NoGuardC 22 "_law_is_told_tree" ["_law_rulebook_here", "_law_struck", "_law_live_here", "_law_name", "_law_told", "_law_due", "_law_is_old"] (spToldT K) := ⟨fTt, _, m aTt, BTt, kTt, ok_toldT FTt CSo CLe CLl CA⟩
  have CAr : CalG P w K mg base NoGuardC 30 "_law_are_trees_right" ["_law_rulebook_here", "_law_struck"] (spTR K) := ⟨fAr, _, m aAr, BAr, kAr, ok_TR FAr (z zrepr) CLi CLv CTt CCt COt CIct CIot CA⟩
  exact ok_law (fun_mk (st := sLaw) lL cL kL) (z zrange) CB CRu CM CAr
end
end Gy

namespace Gy
open PySem L2 PySem.Spec PyProof.Rows
/-- the walk of the law's row -/
theorem walk {l : PySem.W.OpenLaw} {q : Program} {loose : List Str} {XP : (Str → Option Value) → Heap → Prop} {YP : World → Heap → Prop} {d : DefRec} {K : Params → PySem.W.Frag} (most : l.most = some 63) (dfl : d.params.defaults = [])
    (inn : ∀ (w : World) (h : Heap), YP w h → (K w.params).In h)
    (F : ∀ (w : World) (mg : Str → Option Value) (fa : Addr) (h : Heap), (K w.params).In h → h.Ns mainGlobals mg → mg d.name = some (.ref fa) →
      ∃ fd : FuncData, (∀ (s : Shared) (v : Value), BindsTo s fd ⟨[v], []⟩ [("_law_script", v)]) ∧ ∀ base : Heap, (K w.params).In base → base.Ns mainGlobals mg → FnG NoGuardC l.prog w (K w.params) mg base 31 fa fd ["_law_script"] (spLaw (K w.params))) :
    PySem.W.WalkO q loose XP YP l.row.toRowW d [] (fun f vs => PySem.call f vs) := by
  refine Att.attach_call most dfl fun w t s mg mb fa o pm cd doc a vs ns G Y ho hd hcd hmg obj hint len gn => ?_
  have kx := inn w _ Y
  obtain ⟨fd, bind, promise⟩ := F w mg fa _ kx G.T.g hmg
  exact head_call kx G.T.g G.T.b G.T.builtins G.T.nolimit gn obj hint (Nat.le_trans len (by decide)) (fun u => bind s u) promise
end Gy

open PySem PySem.W PyProof.Rows in
set_option maxRecDepth 100000 in
set_option maxHeartbeats 0 in
theorem PySem.Challenge.cw_goneyet_k23_trees_told_holds : PySem.Challenge.rw_goneyet_k23_trees_told.Holds := by
  w_on; o_law; k_head; (case hw => w_witness2)
  k_fill
  refine Gy.walk (l := PySem.Challenge.rw_goneyet_k23_trees_told) rfl rfl (fun w h Y => PySem.W.kIn_of Y) ?F
  case F =>
    intro w mg fa h KX G hmg
    refine' Gy.all_mk KX G hmg ?gG ?rG ?sG ?iG ?a0 ?x0L ?j0 ?t0 ?l0 ?c0 ?k0 ?n0name ?gROW ?aIi ?lIi ?cIi ?kIi ?aKo ?lKo ?cKo ?kKo ?aGo ?lGo ?cGo ?kGo ?aMe ?lMe ?cMe ?kMe ?aGk ?lGk ?cGk ?kGk ?aIb ?lIb ?cIb ?kIb ?aBk ?lBk ?cBk ?kBk ?aLo ?lLo ?cLo ?kLo ?aLg ?lLg ?cLg ?kLg ?aOs ?lOs ?cOs ?kOs ?aIc ?lIc ?cIc ?kIc ?aPb ?lPb ?cPb ?kPb ?aCts ?lCts ?cCts ?kCts ?aCt ?lCt ?cCt ?kCt ?aOp ?lOp ?cOp ?kOp ?aOts ?lOts ?cOts ?kOts ?aOt ?lOt ?cOt ?kOt ?aIt ?lIt ?cIt ?kIt ?aRi ?lRi ?cRi ?kRi ?aIct ?lIct ?cIct ?kIct ?aIot ?lIot ?cIot ?kIot ?aLe ?lLe ?cLe ?kLe ?aB ?lB ?cB ?kB ?aT ?lT ?cT ?kT ?aS ?lS ?cS ?kS ?aA ?lA ?cA ?kA ?aM ?lM ?cM ?kM ?aNa ?lNa ?cNa ?kNa ?aNb ?lNb ?cNb ?kNb ?aNd ?lNd ?cNd ?kNd ?aGr ?lGr ?cGr ?kGr ?aAn ?lAn ?cAn ?kAn ?aPl ?lPl ?cPl ?kPl ?aMo ?lMo ?cMo ?kMo ?aTh ?lTh ?cTh ?kTh ?aRu ?lRu ?cRu ?kRu ?aKf ?lKf ?cKf ?kKf ?aBe ?lBe ?cBe ?kBe ?aIm ?lIm ?cIm ?kIm ?aLi ?lLi ?cLi ?kLi ?aLl ?lLl ?cLl ?kLl ?aTr ?lTr ?cTr ?kTr ?aItl ?lItl ?cItl ?kItl ?aSo ?lSo ?cSo ?kSo ?aLv ?lLv ?cLv ?kLv ?aIw ?lIw ?cIw ?kIw ?aTt ?lTt ?cTt ?kTt ?aAr ?lAr ?cAr ?kAr ?aL ?lL ?cL ?kL ?zint ?zabs ?zlen ?zrepr ?zrange ?zlist ?ztuple ?zsorted ?zset ?zdict ?zenumerate ?zany ?zall ?zzip ?zmax ?zmin ?zisinstance ?zstr ?zbool ?bX
    (case gG => k_is); (case rG => k_is); (case sG => k_is); (case iG => k_is); (case a0 => k_is); (case x0L => k_is)
    (case j0 => k_is); (case t0 => k_is); (case l0 => k_is); (case c0 => k_is); (case k0 => k_is); (case n0name => k_is)
    (case gROW => k_is); (case aIi => k_is); (case lIi => k_is); (case cIi => k_is); (case kIi => k_is); (case aKo => k_is)
    (case lKo => k_is); (case cKo => k_is); (case kKo => k_is); (case aGo => k_is); (case lGo => k_is); (case cGo => k_is)
    (case kGo => k_is); (case aMe => k_is); (case lMe => k_is); (case cMe => k_is); (case kMe => k_is); (case aGk => k_is)
    (case lGk => k_is); (case cGk => k_is); (case kGk => k_is); (case aIb => k_is); (case lIb => k_is); (case cIb => k_is)
    (case kIb => k_is); (case aBk => k_is); (case lBk => k_is); (case cBk => k_is); (case kBk => k_is); (case aLo => k_is)
    (case lLo => k_is); (case cLo => k_is); (case kLo => k_is); (case aLg => k_is); (case lLg => k_is); (case cLg => k_is)
    (case kLg => k_is); (case aOs => k_is); (case lOs => k_is); (case cOs => k_is); (case kOs => k_is); (case aIc => k_is)
    (case lIc => k_is); (case cIc => k_is); (case kIc => k_is); (case aPb => k_is); (case lPb => k_is); (case cPb => k_is)
    (case kPb => k_is); (case aCts => k_is); (case lCts => k_is); (case cCts => k_is); (case kCts => k_is); (case aCt => k_is)
    (case lCt => k_is); (case cCt => k_is); (case kCt => k_is); (case aOp => k_is); (case lOp => k_is); (case cOp => k_is)
    (case kOp => k_is); (case aOts => k_is); (case lOts => k_is); (case cOts => k_is); (case kOts => k_is); (case aOt => k_is)
    (case lOt => k_is); (case cOt => k_is); (case kOt => k_is); (case aIt => k_is); (case lIt => k_is); (case cIt => k_is)
    (case kIt => k_is); (case aRi => k_is); (case lRi => k_is); (case cRi => k_is); (case kRi => k_is); (case aIct => k_is)
    (case lIct => k_is); (case cIct => k_is); (case kIct => k_is); (case aIot => k_is); (case lIot => k_is); (case cIot => k_is)
    (case kIot => k_is); (case aLe => k_is); (case lLe => k_is); (case cLe => k_is); (case kLe => k_is); (case aB => k_is)
    (case lB => k_is); (case cB => k_is); (case kB => k_is); (case aT => k_is); (case lT => k_is); (case cT => k_is)
    (case kT => k_is); (case aS => k_is); (case lS => k_is); (case cS => k_is); (case kS => k_is); (case aA => k_is)
    (case lA => k_is); (case cA => k_is); (case kA => k_is); (case aM => k_is); (case lM => k_is); (case cM => k_is)
    (case kM => k_is); (case aNa => k_is); (case lNa => k_is); (case cNa => k_is); (case kNa => k_is); (case aNb => k_is)
    (case lNb => k_is); (case cNb => k_is); (case kNb => k_is); (case aNd => k_is); (case lNd => k_is); (case cNd => k_is)
    (case kNd => k_is); (case aGr => k_is); (case lGr => k_is); (case cGr => k_is); (case kGr => k_is); (case aAn => k_is)
    (case lAn => k_is); (case cAn => k_is); (case kAn => k_is); (case aPl => k_is); (case lPl => k_is); (case cPl => k_is)
    (case kPl => k_is); (case aMo => k_is); (case lMo => k_is); (case cMo => k_is); (case kMo => k_is); (case aTh => k_is)
    (case lTh => k_is); (case cTh => k_is); (case kTh => k_is); (case aRu => k_is); (case lRu => k_is); (case cRu => k_is)
    (case kRu => k_is); (case aKf => k_is); (case lKf => k_is); (case cKf => k_is); (case kKf => k_is); (case aBe => k_is)
    (case lBe => k_is); (case cBe => k_is); (case kBe => k_is); (case aIm => k_is); (case lIm => k_is); (case cIm => k_is)
    (case kIm => k_is); (case aLi => k_is); (case lLi => k_is); (case cLi => k_is); (case kLi => k_is); (case aLl => k_is)
    (case lLl => k_is); (case cLl => k_is); (case kLl => k_is); (case aTr => k_is); (case lTr => k_is); (case cTr => k_is)
    (case kTr => k_is); (case aItl => k_is); (case lItl => k_is); (case cItl => k_is); (case kItl => k_is); (case aSo => k_is)
    (case lSo => k_is); (case cSo => k_is); (case kSo => k_is); (case aLv => k_is); (case lLv => k_is); (case cLv => k_is)
    (case kLv => k_is); (case aIw => k_is); (case lIw => k_is); (case cIw => k_is); (case kIw => k_is); (case aTt => k_is)
    (case lTt => k_is); (case cTt => k_is); (case kTt => k_is); (case aAr => k_is); (case lAr => k_is); (case cAr => k_is)
    (case kAr => k_is); (case aL => k_is); (case lL => k_is); (case cL => k_is); (case kL => k_is); (case zint => k_is)
    (case zabs => k_is); (case zlen => k_is); (case zrepr => k_is); (case zrange => k_is); (case zlist => k_is); (case ztuple => k_is)
    (case zsorted => k_is); (case zset => k_is); (case zdict => k_is); (case zenumerate => k_is); (case zany => k_is); (case zall => k_is)
    (case zzip => k_is); (case zmax => k_is); (case zmin => k_is); (case zisinstance => k_is); (case zstr => k_is); (case zbool => k_is)
    (case bX => kernel_rfl)

