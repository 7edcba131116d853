import Derived.Test.YtjchghbmniifgaaGreatDoorX01
import Derived.Great.BuildSlice
import Derived.Laws.AppendOwn
import Derived.Laws.MakeOwn
import Derived.MapKept
import Derived.OrdersIn
set_option linter.unusedVariables false
set_option linter.unusedSimpArgs false
set_option linter.unusedSectionVars false
set_option linter.constructorNameAsVariable false
set_option linter.defProp false
set_option linter.unnecessarySimpa false
set_option autoImplicit false
namespace Go.AR
section
variable {L : LoopOk} {Γ : G} {h h' : Tr Blk} {nx nx' : Pos} {w : World} {v : AV} {P : Program} {o : Oper} {ρ : Operand → Value} {vs : List AV}
theorem foldl_splice (off : Nat) : ∀ (cs : List Value) (j : Nat) (arr : Array Value), off + j + cs.length ≤ arr.size →
    ((cs.zipIdx j).foldl (fun a (x : Value × Nat) => a.setIfInBounds (off + x.2) x.1) arr).toList = arr.toList.take (off + j) ++ cs ++ arr.toList.drop (off + j + cs.length)
  | [], j, arr, _ => by simp
  | c :: cs, j, arr, hl => by
    simp only [List.zipIdx_cons, List.foldl_cons]
    rw [foldl_splice off cs (j + 1) _ (by simp at hl ⊢; omega)]
    have := list_seg_step arr.toList (off + j) c cs (by simp at hl ⊢; omega)
    simpa [Array.toList_setIfInBounds, Nat.add_assoc] using this
theorem fill_step {place : Nat → Option (Nat × Nat)} {cells : Array Value} {i off size : Nat} {x : Value} {rest : List (Nat × Value)} (hp : place i = some (off, size)) (hs : x.cells.size = size) (hl : off + size ≤ cells.size) :
    ∃ cells', cells'.toList = cells.toList.take off ++ x.cells.toList ++ cells.toList.drop (off + size) ∧ Instr.fill place cells ((i, x) :: rest) = Instr.fill place cells' rest := by
  refine ⟨x.cells.zipIdx.foldl (fun cs (c, j) => cs.setIfInBounds (off + j) c) cells, ?_, ?_⟩
  · rw [← Array.foldl_toList]
    have := foldl_splice off x.cells.toList 0 cells (by simp; omega)
    simp only [Array.toList_zipIdx, Nat.add_zero] at this ⊢
    rw [this, Array.length_toList, hs]
  · simp only [Instr.fill, hp]
    rw [if_neg (by simp [hs]; omega)]
theorem fill_run {pl : List (Nat × Nat)} {place : Nat → Option (Nat × Nat)} (hpl : ∀ (i : Nat) (f : Nat × Nat), pl[i]? = some f → place i = some f) : ∀ (ps : List (Nat × Operand)) (os : List (Nat × Nat)) (xs : List Operand) (vs z l : List AV) (cells : Array Value),
    compOs P pl ps = some (os, xs) → VL Γ vs (xs.map ρ) → VL Γ z cells.toList → fillL vs os z = some l →
    ∃ cells', Instr.fill place cells (ps.map fun p => (p.1, ρ p.2)) = some cells' ∧ VL Γ l cells'.toList
  | [], os, xs, vs, z, l, cells, hc, hv, hz, hl => by
    cases hc; cases hv; cases hl
    exact ⟨cells, rfl, hz⟩
  | (i, x) :: ps, os, xs, vs, z, l, cells, hc, hv, hz, hl => by
    unfold compOs at hc
    cases hf : pl[i]? with
    | none => simp [hf] at hc
    | some f =>
      cases hr : compOs P pl ps with
      | none => simp [hf, hr] at hc
      | some r =>
        obtain ⟨os', xs'⟩ := r
        simp only [hf, hr, Option.some.injEq, Prod.mk.injEq] at hc
        obtain ⟨rfl, rfl⟩ := hc
        simp only [List.map_cons] at hv
        cases hv with | cons h1 h2 =>
        rename_i a vs'
        obtain ⟨off, size⟩ := f
        have hl' : (bif Nat.beq (cellsOf a).length size then (match spl off (cellsOf a) z with | some z => fillL vs' os' z | none => none) else none) = some l := hl
        cases hb : Nat.beq (cellsOf a).length size with
        | false => simp [hb] at hl'
        | true =>
          simp only [hb, cond_true] at hl'
          cases hs : spl off (cellsOf a) z with
          | none => simp [hs] at hl'
          | some z' =>
            simp only [hs] at hl'
            obtain ⟨e1, e2⟩ := spl_eq _ _ _ _ hs
            have hsz := Nat.eq_of_beq_eq_true hb
            have hcs : (ρ x).cells.size = size := by rw [← Array.length_toList, h1.cells.length, hsz]
            have hzl := hz.length
            have hcsz : cells.size = z.length := by rw [← Array.length_toList, hzl]
            obtain ⟨cells', hc1, hc2⟩ := fill_step (cells := cells) (rest := ps.map fun p => (p.1, ρ p.2)) (hpl i _ hf) hcs (by omega)
            simp only [List.map_cons]
            rw [hc2]
            refine fill_run hpl ps os' xs' vs' z' l cells' hr h2 ?_ hl'
            rw [hc1, e1]
            have hz' := hz
            have hz0 : z = z.take off ++ (z.drop off).take size ++ z.drop (off + size) := by rw [← List.drop_drop, List.append_assoc, List.take_append_drop, List.take_append_drop]
            rw [hz0] at hz'
            obtain ⟨ab, c, hq, hab, hcc⟩ := hz'.split
            obtain ⟨a', m, rfl, ha, hm⟩ := hab.split
            have hal : a'.length = off := by rw [ha.length]; simp; omega
            have hml : m.length = size := by rw [hm.length]; simp; omega
            rw [hq, hsz]
            have e3 : (a' ++ m ++ c).take off = a' := by rw [List.append_assoc, List.take_append_of_le_length (by omega), List.take_of_length_le (by omega)]
            have e4 : (a' ++ m ++ c).drop (off + size) = c := by rw [List.drop_append_of_le_length (by simp; omega), List.drop_of_length_le (by simp; omega)]; rfl
            rw [e3, e4]
            exact (ha.append h1.cells).append hcc
theorem fieldsOf_mapM : ∀ (fs : List Field) (pl : List (Nat × Nat)), fieldsOf P fs = some pl → fs.mapM (fun f => (P.info? f.type).map fun i => (f.offset, i.size)) = some pl
  | [], pl, h => by cases h; rfl
  | f :: fs, pl, h => by
    unfold fieldsOf allO at h
    cases hs : (szOf P f.type).map fun s => (f.offset, s) with
    | none => simp [hs] at h
    | some y =>
      cases hr : allO (fun f => (szOf P f.type).map fun s => (f.offset, s)) fs with
      | none => simp [hs, hr] at h
      | some r =>
        simp only [hs, hr, Option.some.injEq] at h
        subst h
        have ih := fieldsOf_mapM fs r hr
        rw [List.mapM_cons, ih]
        unfold szOf at hs
        cases hi : P.info? f.type with
        | none => simp [hi] at hs
        | some i => simp [hi] at hs ⊢; exact hs
theorem d_build (hr : R L Γ h nx w) {t : TypeId} {ps : Array (Nat × Operand)} (ho : o.op = .build t ps) {z : List AV} (hz : zeroOf P t = some z) {pl : List (Nat × Nat)}
    (hpl : (∃ fs, P.underlying t = some (.struct fs) ∧ fieldsOf P fs.toList = some pl) ∨ (∃ m e s, P.underlying t = some (.array m e) ∧ szOf P e = some s ∧ pl = (List.range m).map fun i => (i * s, s)))
    {os : List (Nat × Nat)} {xs : List Operand} (hc : compOs P pl ps.toList = some (os, xs)) (hv : VL Γ vs (xs.map ρ)) (hx : doBuild z os vs h nx = .ok v h' nx') :
    Done L Γ h nx w v h' nx' ((execOp ρ o).run P w) := by
  unfold doBuild at hx
  split at hx
  · rename_i l hl
    cases hx
    obtain ⟨zv, hz1, hz2⟩ := zeroOf_run hz
    have hz3 := hz2 Γ
    unfold zeroV at hz1
    cases hi : P.info? t with
    | none => rw [hi] at hz1; cases hz1
    | some it =>
      rw [hi] at hz1
      have hzz : it.zero = some zv := hz1
      have key : ∃ cells', P.built t (ps.map fun p => (p.1, ρ p.2)).toList = some cells' ∧ VL Γ l cells'.toList := by
        rw [Array.toList_map]
        rcases hpl with ⟨fs, hu, hf⟩ | ⟨m, e, s, hu, hs, rfl⟩
        · obtain ⟨cells', h1, h2⟩ := fill_run (P := P) (Γ := Γ) (ρ := ρ) (place := (pl.toArray[·]?)) (fun i f hf => by simpa using hf) ps.toList os xs vs z l zv.cells hc hv hz3 hl
          refine ⟨cells', ?_, h2⟩
          simp only [Program.built, hi, hu, hzz, fieldsOf_mapM _ _ hf]
          exact h1
        · unfold szOf at hs
          cases hie : P.info? e with
          | none => rw [hie] at hs; cases hs
          | some ie =>
            rw [hie] at hs
            have hs : ie.size = s := by simpa using hs
            obtain ⟨cells', h1, h2⟩ := fill_run (P := P) (Γ := Γ) (ρ := ρ) (place := fun i => some (i * s, s)) (fun i f hf => by
              simp only [List.getElem?_map, Option.map_eq_some_iff] at hf
              obtain ⟨j, hj, rfl⟩ := hf
              have := List.getElem?_eq_some_iff.1 hj
              obtain ⟨_, hj⟩ := this
              simp at hj; subst hj; rfl) ps.toList os xs vs z l zv.cells hc hv hz3 hl
            refine ⟨cells', ?_, h2⟩
            simp only [Program.built, hi, hu, hzz, hie, hs]
            exact h1
      obtain ⟨cells', h1, h2⟩ := key
      simp only [execOp, ho]
      rw [runv (run_build w t _ cells' h1)]
      exact Done.same hr (.a _ _ h2)
  · cases hx
theorem rep_zero {z : List AV} {zv : List Value} {s : Nat} (hz : VL Γ z zv) (hs : zv.length = s) (h0 : 0 < s) (m : Nat) : VL Γ (rep m z) ((List.range (m * s)).map (zv.toArray[· % s]!)) := by
  have key : ∀ k, VL Γ (rep k z) ((List.range (k * s)).map (zv.toArray[· % s]!)) := by
    intro k
    induction k with
    | zero => simp [rep]; exact .nil
    | succ k ih =>
      have e : (List.range ((k + 1) * s)).map (zv.toArray[· % s]!) = zv ++ (List.range (k * s)).map (zv.toArray[· % s]!) := by
        rw [Nat.succ_mul, Nat.add_comm, List.range_add, List.map_append]
        congr 1
        · apply List.ext_getElem
          · simp [hs]
          · intro i h1 h2
            simp at h1 h2 ⊢
            rw [Nat.mod_eq_of_lt (by omega)]
            simp [List.getElem?_eq_getElem (show i < zv.length by omega)]
        · rw [List.map_map]
          apply List.map_congr_left
          intro i _
          simp [Nat.add_mod_left]
      rw [e]
      exact hz.append ih
  exact key m
theorem madeRow {z : List AV} {zv : Value} {s m : Nat} (hz : VL Γ z zv.cells.toList) (hs : zv.cells.size = s) (h0 : 0 < s) : VL Γ (rep m z) ((Array.range (m * s)).map (zv.cells[· % zv.cells.size]!)).toList := by
  have := rep_zero hz (show zv.cells.toList.length = s by simpa using hs) h0 m
  rw [hs]
  simpa using this
theorem info_of_sz {e : TypeId} {s : Nat} (hs : szOf P e = some s) : ∃ i, P.info? e = some i ∧ i.size = s := by
  unfold szOf at hs
  cases hi : P.info? e with
  | none => rw [hi] at hs; cases hs
  | some i => rw [hi] at hs; exact ⟨i, rfl, by simpa using hs⟩
theorem zero_of_info {e : TypeId} {i : TypeInfo} (hi : P.info? e = some i) {z : List AV} (hz : zeroOf P e = some z) : ∃ zv, i.zero = some zv ∧ ∀ Γ, VL Γ z zv.cells.toList := by
  obtain ⟨zv, h1, h2⟩ := zeroOf_run hz
  unfold zeroV at h1
  rw [hi] at h1
  exact ⟨zv, h1, h2⟩
theorem d_bslice (hL : LMono L) (hr : R L Γ h nx w) {t e : TypeId} {m : Nat} {ps : Array (Nat × Operand)} (ho : o.op = .buildSlice t m ps) (hu : P.underlying t = some (.slice e)) {z : List AV} {s : Nat} (hz : zeroOf P e = some z) (hs : szOf P e = some s)
    (hzs : z.length = s) (h0 : 0 < s) (hm : m * s ≤ 65536) {os : List (Nat × Nat)} {xs : List Operand} (hc : compOs P ((List.range m).map fun i => (i * s, s)) ps.toList = some (os, xs)) (hv : VL Γ vs (xs.map ρ))
    (hx : doBslice (rep m z) m os vs h nx = .ok v h' nx') : Done L Γ h nx w v h' nx' ((execOp ρ o).run P w) := by
  unfold doBslice at hx
  split at hx
  · rename_i l hl
    cases hx
    obtain ⟨i, hi, his⟩ := info_of_sz hs
    obtain ⟨zv, hzv, hz2⟩ := zero_of_info hi hz
    have hzsz : zv.cells.size = s := by rw [← Array.length_toList, (hz2 Γ).length, hzs]
    have hrow := madeRow (m := m) (hz2 Γ) hzsz h0
    obtain ⟨cells', h1, h2⟩ := fill_run (P := P) (Γ := Γ) (ρ := ρ) (place := fun i => some (i * s, s)) (fun i f hf => by
              simp only [List.getElem?_map, Option.map_eq_some_iff] at hf
              obtain ⟨j, hj, rfl⟩ := hf
              have := List.getElem?_eq_some_iff.1 hj
              obtain ⟨_, hj⟩ := this
              simp at hj; subst hj; rfl) ps.toList os xs vs (rep m z) l _ hc hv hrow hl
    by_cases hm0 : m = 0
    · subst hm0
      have hst := new_row hL hr h2 e 0 (rest := []) (fun _ => rfl)
      rw [List.append_nil, Array.toArray_toList] at hst
      refine Done.of (v' := .slice (some ⟨w.heap.size, 0, none⟩) 0 0) ?_ hst (.sl nx 0 0 0 0 _ (G.add_same _ _) (Nat.le_refl _) (.inl rfl))
      have hps : ps.toList = [] := by
        cases hq : ps.toList with
        | nil => rfl
        | cons a b => rw [hq] at hc; simp [compOs] at hc
      have hps : ps = #[] := by rw [← Array.toArray_toList (xs := ps), hps]
      subst hps
      have r0 : Array.range 0 = #[] := rfl
      have hc' : cells' = #[] := by simpa [Instr.fill, r0] using h1.symm
      subst hc'
      simp only [execOp, ho]
      exact runv' (by simp [Instr.buildSlice, run_underlying hu, szOf_run hs, Instr.fill, newRow_run, r0])
    · have hst := new_row hL hr h2 e 0 (rest := []) (fun _ => rfl)
      rw [List.append_nil, Array.toArray_toList] at hst
      refine Done.of (v' := .slice (some ⟨w.heap.size, 0, none⟩) m m) ?_ hst (.sl nx 0 m m m _ (G.add_same _ _) (Nat.le_refl _) (.inl rfl))
      simp only [execOp, ho]
      have hpos : 0 < m * s := Nat.mul_pos (by omega) h0
      refine runv' (run_buildSlice w t e m _ cells' i zv hu hi hzv (by rw [his]; omega) (by rw [his]; omega) ?_)
      rw [Array.toList_map, his]
      exact h1
  · cases hx
theorem d_mkslice (hL : LMono L) (hr : R L Γ h nx w) {t e : TypeId} {x y : Operand} (ho : o.op = .makeSlice t x y) (hu : P.underlying t = some (.slice e)) {z : List AV} {s : Nat} {i : TypeInfo} (hz : zeroOf P e = some z)
    (hs : szOf P e = some s) (hi : P.info? e = some i) (hzs : z.length = s) (h0 : 0 < s) (hb : i.bytes ≤ 1048576) (hv : VL Γ vs [ρ x, ρ y]) (hx : doMkslice z vs h nx = .ok v h' nx') :
    Done L Γ h nx w v h' nx' ((execOp ρ o).run P w) := by
  unfold doMkslice at hx
  split at hx
  · rename_i k n k' c
    cases h1 : Nat.ble n c with
    | false => simp [h1] at hx
    | true =>
      cases h2 : Nat.ble c 16777216 with
      | false => simp [h1, h2] at hx
      | true =>
        simp only [h1, h2, cond_true] at hx; cases hx
        have hnc := ble_le h1
        have hc := ble_le h2
        obtain ⟨_, _, e', g1, g2⟩ := hv.inv2
        simp only [List.cons.injEq, and_true] at e'
        obtain ⟨e1, e2⟩ := e'
        cases g1; cases g2
        obtain ⟨zv, hzv, hz2⟩ := zero_of_info hi hz
        have his : i.size = s := by unfold szOf at hs; rw [hi] at hs; simpa using hs
        have hzsz : zv.cells.size = s := by rw [← Array.length_toList, (hz2 Γ).length, hzs]
        have hrow := madeRow (m := c) (hz2 Γ) hzsz h0
        have hst := new_row hL hr hrow e 0 (rest := []) (fun _ => rfl)
        rw [List.append_nil, Array.toArray_toList] at hst
        have hbytes : (i.bytes : Int) * ((c : Nat) : Int) ≤ 281474976710656 := by
          have : i.bytes * c ≤ 1048576 * 16777216 := Nat.mul_le_mul hb hc
          have q : ((i.bytes * c : Nat) : Int) ≤ 281474976710656 := by omega
          rwa [Int.natCast_mul] at q
        have hrun := run_make (P := P) w t e i zv hu hi hzv k k' (n : Int) (c : Int) (by omega) (by omega) hbytes (by omega)
        simp only [Int.toNat_natCast, his] at hrun
        refine Done.of (v' := .slice (some ⟨w.heap.size, 0, none⟩) n c) ?_ hst (.sl nx 0 n c c _ (G.add_same _ _) hnc (.inl rfl))
        simp only [execOp, ho, e1, e2]
        exact runv' hrun
  · cases hx
theorem d_mkfn (hr : R L Γ h nx w) {f : Nat} {first captured : Array Operand} (ho : o.op = .makeFunc (.func f) first captured) (hf : first.size = 0) (hv : VL Γ vs (captured.toList.map ρ)) :
    Done L Γ h nx w (.f (pos f) vs) h nx ((execOp ρ o).run P w) := by
  have hfirst : first = #[] := Array.eq_empty_of_size_eq_zero hf
  subst hfirst
  have e : execOp ρ o = pure (.value (.func (.func f) #[] (captured.map ρ))) := by simp [execOp, ho, Instr.makeFunc]
  rw [e]
  exact Done.same hr (.f f vs (captured.map ρ) (by simpa using hv))
theorem VL.sub {l : List AV} {m : List Value} (hl : VL Γ l m) {off n : Nat} {r : List AV} (hs : sub off n l = some r) : ∃ q, VL Γ r q ∧ q.length = n ∧ ∀ (j : Nat) (y : Value), q[j]? = some y → m[off + j]? = some y := by
  rcases rd_rel (agg := true) (n := n) (o := off) (x := .a r) hl (by simp [rd, hs]) with ⟨_, r', q, hq, h1, h2, h3⟩ | ⟨h0, _⟩
  · cases hq; exact ⟨q, h1, h2, h3⟩
  · cases h0
theorem row_cells (hr : R L Γ h nx w) {s : Nat} {x : AV} {a : Value} (ha : V Γ x a) {n : Nat} (hn : slen x = some n) {r : List AV} (hrow : rowOf s h x = some r) :
    (x = .ns ∧ a = .slice none 0 0 ∧ n = 0 ∧ r = []) ∨ (∃ b off c e c' q, x = .sl b off n c ∧ Γ.μ b = some e ∧ a = .slice (some ⟨e.rb, e.base + off, none⟩) n c' ∧ n ≤ c ∧ c ≤ c' ∧
      (c' = c ∨ (0 < e.gr ∧ c ≤ c' ∧ off + c * e.gr = e.n ∧ off + c' * e.gr ≤ e.tot)) ∧ (∃ l gr, h.get b = some (.cells l gr)) ∧
      VL Γ r q ∧ q.length = n * s ∧ (∀ (j : Nat) (y : Value), q[j]? = some y → w.cell? ⟨e.rb, e.base + off + j, none⟩ = some y)) ∨
    ∃ k l xx ad cap q, x = .z k l n xx ∧ a = .slice ad n cap ∧ n ≤ cap ∧ (xx = true → cap = n) ∧ (ad = none → cap = 0) ∧ VL Γ r q ∧ q.length = n * s ∧
      ∀ (j : Nat) (y : Value), q[j]? = some y → ∃ rb off, ad = some ⟨rb, off, none⟩ ∧ w.cell? ⟨rb, off + j, none⟩ = some y := by
  cases x <;> simp only [slen, reduceCtorEq, Option.some.injEq] at hn
  case ns => cases ha; cases hrow; exact .inl ⟨rfl, rfl, hn.symm, rfl⟩
  case z k l n' xx =>
    subst hn
    right; right
    unfold rowOf at hrow
    cases hq : Nat.beq l.length (n' * s) with
    | false => simp [hq] at hrow
    | true =>
      simp only [hq, cond_true] at hrow; cases hrow
      obtain ⟨ad, cap, q, rfl, h1, h2, h3, h4, h5, _⟩ := ha.z_inv
      refine ⟨k, r, xx, ad, cap, q, rfl, rfl, h3, h4, h5, h1, by rw [h1.length]; exact Nat.eq_of_beq_eq_true hq, ?_⟩
      intro j y hy
      exact h2.cell hr hy
  case sl b off n' c =>
    subst hn
    right; left
    unfold rowOf at hrow
    cases hc : cellsAt h b with
    | none => simp [hc] at hrow
    | some l =>
      simp only [hc] at hrow
      obtain ⟨gr, hb⟩ := cellsAt_some hc
      cases ha with | sl _ _ _ _ c' e he hn hcc =>
      obtain ⟨_, C, ty, pre, mid, post, hw, hC, hp, hm, hnn, ht, hg⟩ := hr.cells he hb
      obtain ⟨q, h1, h2, h3⟩ := hm.sub hrow
      refine ⟨b, off, c, e, c', q, rfl, he, rfl, hn, by rcases hcc with h | h <;> omega, hcc, ⟨l, gr, hb⟩, h1, h2, ?_⟩
      intro j y hy
      have hy' := h3 j y hy
      have hj : off + j < mid.length := by
        rcases Nat.lt_or_ge (off + j) mid.length with hj | hj
        · exact hj
        · rw [List.getElem?_eq_none hj] at hy'; cases hy'
      unfold World.cell?
      rw [hw]
      show C[e.base + off + j]? = some y
      rw [← Array.getElem?_toList, hC, List.append_assoc, List.getElem?_append_right (by omega), List.getElem?_append_left (by omega), hp, show e.base + off + j - e.base = off + j by omega]
      exact hy'
end
end Go.AR
namespace Go.AR
section
variable {L : LoopOk} {Γ : G} {h h' : Tr Blk} {nx nx' : Pos} {w : World} {v : AV} {P : Program} {o : Oper} {ρ : Operand → Value} {vs : List AV}
theorem R.adopt (hL : LMono L) (hr : R L Γ h nx w) {b : Pos} {e : Ext} (he : Γ.μ b = some e) (ha : alive h b) (B : Blk) (o : Obj) (e' : Ext) (heb : e'.rb = e.rb) (hd : B ≠ .dead) (hrel : BlkRel L (Γ.add nx e') e' B o)
    {w' : World} (hw : w'.heap[e.rb]? = some o) (hwo : ∀ r, r ≠ e.rb → w'.heap[r]? = w.heap[r]?) (hs : w'.heap.size = w.heap.size)
    (hos : w'.os = w.os) (htape : w'.tape = w.tape) (hout : w'.output = w.output) : St L Γ h nx w (Γ.add nx e') ((h.set b .dead).set nx B) nx.succ w' := by
  have hf := hr.fresh
  have hle := G.le_add (Γ := Γ) e' hf
  have hbn : b ≠ nx := fun eq => by rw [eq, hf] at he; cases he
  have hnew : ∀ x f, (Γ.add nx e').μ x = some f → (x = nx ∧ f = e') ∨ (x ≠ nx ∧ Γ.μ x = some f) := fun x f hx => by
    by_cases hxn : x = nx
    · subst hxn; rw [G.add_same] at hx; cases hx; exact .inl ⟨rfl, rfl⟩
    · rw [G.add_other e' hxn] at hx; exact .inr ⟨hxn, hx⟩
  have hget : ∀ x, x ≠ nx → x ≠ b → ((h.set b .dead).set nx B).get x = h.get x := fun x h1 h2 => by rw [Tr.get_set_other _ _ (Ne.symm h1), Tr.get_set_other _ _ (Ne.symm h2)]
  have hgb : ((h.set b .dead).set nx B).get b = some .dead := by rw [Tr.get_set_other _ _ (Ne.symm hbn), Tr.get_set_same]
  have hal : ∀ x, x ≠ nx → alive ((h.set b .dead).set nx B) x → alive h x ∧ x ≠ b := fun x h1 h2 => by
    have hxb : x ≠ b := by rintro rfl; obtain ⟨B', hB', hd'⟩ := h2; rw [hgb] at hB'; cases hB'; exact hd' rfl
    obtain ⟨B', hB', hd'⟩ := h2
    rw [hget x h1 hxb] at hB'
    exact ⟨⟨B', hB', hd'⟩, hxb⟩
  have hlt := hr.lt b e he
  refine ⟨hle, ⟨?_, ?_, ?_, ?_, ?_, hr.zcells, hr.base⟩, hos, htape, hout, by omega, ?_, ?_, ?_, ?_, by rw [Pos.num_succ]; omega, fun k r o h1 h2 => (by rw [show (Γ.add nx e').ζ k r = Γ.ζ k r from rfl, h1] at h2; cases h2)⟩
  · intro x f hx
    rcases hnew x f hx with ⟨rfl, rfl⟩ | ⟨hxn, hx⟩
    · exact ⟨B, Tr.get_set_same _ _ _, .inr ⟨o, by rw [heb]; exact hw, hrel⟩⟩
    · by_cases hxb : x = b
      · subst hxb; exact ⟨.dead, hgb, .inl rfl⟩
      · obtain ⟨B', hB', hd'⟩ := hr.blk x f hx
        refine ⟨B', by rw [hget x hxn hxb]; exact hB', ?_⟩
        rcases hd' with hd' | ⟨o', ho', hrel'⟩
        · exact .inl hd'
        · by_cases hdd : B' = .dead
          · exact .inl hdd
          · refine .inr ⟨o', ?_, hrel'.mono hL hle⟩
            rw [hwo]; exact ho'
            intro heq
            exact hxb (hr.inj x f b e hx he ⟨B', hB', hdd⟩ ha heq)
  · intro x f hx
    rcases hnew x f hx with ⟨rfl, rfl⟩ | ⟨hxn, hx⟩
    · exact ⟨by rw [Pos.num_succ]; omega, by omega⟩
    · obtain ⟨h1, h2⟩ := hr.lt x f hx; exact ⟨by rw [Pos.num_succ]; omega, by omega⟩
  · intro x f1 y f2 hx hy hax hay heq
    rcases hnew x f1 hx with ⟨h1, h2⟩ | ⟨hxn, h1⟩ <;> rcases hnew y f2 hy with ⟨h3, h4⟩ | ⟨hyn, h3⟩
    · rw [h1, h3]
    · obtain ⟨g1, g2⟩ := hal y hyn hay
      exact absurd (hr.inj y f2 b e h3 he g1 ha (by rw [← heq, h2, heb])) g2
    · obtain ⟨g1, g2⟩ := hal x hxn hax
      exact absurd (hr.inj x f1 b e h1 he g1 ha (by rw [heq, h4, heb])) g2
    · exact hr.inj x f1 y f2 h1 h3 (hal x hxn hax).1 (hal y hyn hay).1 heq
  · intro k r o' ho'
    have ho2 : Γ.ζ k r = some o' := ho'
    rw [hwo]; exact hr.zone k r o' ho2
    intro heq
    have := hr.zfree b e he ha k
    rw [← heq, ho2] at this; cases this
  · intro x f hx hax
    rcases hnew x f hx with ⟨rfl, rfl⟩ | ⟨hxn, hx⟩
    · rw [heb]; exact hr.zfree b e he ha
    · exact hr.zfree x f hx (hal x hxn hax).1
  · intro r hlt' ho; exact hwo r (fun heq => ho ⟨b, e, he, heq.symm, ha⟩)
  · intro x f h1 h2
    rcases hnew x f h2 with ⟨rfl, rfl⟩ | ⟨hxn, hx⟩
    · exact ⟨Nat.le_refl _, .inr ⟨b, e, he, heb.symm, ha⟩⟩
    · rw [h1] at hx; cases hx
  · intro x hx hlt'
    by_cases hxb : x = b
    · subst hxb; exact hgb
    · rw [hget x (fun eq => by subst eq; omega) hxb]; exact hx
  · intro x hx hlt'
    refine hget x (fun eq => by subst eq; omega) (fun eq => by subst eq; rw [he] at hx; cases hx)
theorem firstCells_nil (k n : Nat) (w : World) : (Builtin.firstCells k n (.slice none 0 0)).run P w = .ok #[] w := by simp [Builtin.firstCells]
theorem firstCells_some (k n : Nat) (rb off l c : Nat) (q : List Value) (hq : q.length = n * k) (hc : ∀ (j : Nat) (y : Value), q[j]? = some y → w.cell? ⟨rb, off + j, none⟩ = some y) :
    (Builtin.firstCells k n (.slice (some ⟨rb, off, none⟩) l c)).run P w = .ok q.toArray w := by
  simp only [Builtin.firstCells, ← hq]
  exact run_loadCells_list (P := P) w _ q (fun j y hy => by rw [Addr.add_mid]; exact hc j y hy)
theorem app_room {t e ty : TypeId} (hu : P.underlying t = some (.slice e)) {s : Nat} (hs : szOf P e = some s) {a : Addr} {n c m : Nat} {y : Value} {new : Array Value} {w' : World}
    (hl : (Builtin.lenOf y).run P w = .ok m w) (hf : (Builtin.firstCells s m y).run P w = .ok new w) (hst : (storeCells (a.add (n * s)) new.toList).run P w = .ok () w') (hroom : n + m ≤ c) :
    (Builtin.append_ #[t, t] ty #[.slice (some a) n c, y]).run P w = .ok (.slice (some a) (n + m) c) w' := by
  simp [Builtin.append_, run_underlying hu, szOf_run hs, hl, hf, hst, hroom]
theorem app_room_nil {t e ty : TypeId} (hu : P.underlying t = some (.slice e)) {s : Nat} (hs : szOf P e = some s) {y : Value} {new : Array Value}
    (hl : (Builtin.lenOf y).run P w = .ok 0 w) (hf : (Builtin.firstCells s 0 y).run P w = .ok new w) : (Builtin.append_ #[t, t] ty #[.slice none 0 0, y]).run P w = .ok (.slice none 0 0) w := by
  simp [Builtin.append_, run_underlying hu, szOf_run hs, hl, hf]
theorem grown_ge (w : World) (need old : Nat) (e : TypeId) : need ≤ grownCap w need old e := grownCap_ge w need old e
theorem new_app (hL : LMono L) (hr : R L Γ h nx w) {l : List AV} {q : List Value} (hl : VL Γ l q) (e : TypeId) {s k : Nat} {z : Value} (h0 : 0 < s) (hz : z.cells.size = s) (hk : l.length = k * s) (need old : Nat) (hneed : need = k) :
    St L Γ h nx w (Γ.add nx ⟨w.heap.size, 0, l.length, l.length + (grownCap w need old e - need) * s, s⟩) (h.set nx (.cells l s)) nx.succ (w.drew.alloc (.cells (q.toArray ++ Builtin.zeroCells z.cells (grownCap w need old e - need)) e)) ∧
    V (Γ.add nx ⟨w.heap.size, 0, l.length, l.length + (grownCap w need old e - need) * s, s⟩) (.sl nx 0 k k) (.slice (some ⟨w.heap.size, 0, none⟩) k (grownCap w need old e)) := by
  subst hneed
  have hge := grown_ge w need old e
  constructor
  · have h1 := hr.drew
    have h2 := new_row hL h1.rel hl e s (rest := (Builtin.zeroCells z.cells (grownCap w need old e - need)).toList) (fun h => absurd h (by omega))
    have h3 := St.trans hr h1 h2
    have e1 : (Builtin.zeroCells z.cells (grownCap w need old e - need)).toList.length = (grownCap w need old e - need) * s := by
      rw [Array.length_toList, size_zeroCells, hz]
    have e2 : (q ++ (Builtin.zeroCells z.cells (grownCap w need old e - need)).toList).toArray = q.toArray ++ Builtin.zeroCells z.cells (grownCap w need old e - need) := by
      apply Array.ext'; simp
    rw [e1, e2] at h3
    exact h3
  · have q1 : need * s + (grownCap w need old e - need) * s = grownCap w need old e * s := by rw [← Nat.add_mul]; congr 1; omega
    refine .sl nx 0 need need _ _ (G.add_same _ _) (Nat.le_refl _) (.inr ⟨h0, hge, ?_, ?_⟩)
    · show 0 + need * s = l.length; omega
    · show 0 + grownCap w need old e * s ≤ l.length + (grownCap w need old e - need) * s; omega
theorem d_app (hL : LMono L) (hr : R L Γ h nx w) {t e : TypeId} {x y : Operand} {args : Array Operand} {ts : Array TypeId} (ho : o.op = .call { callee := .builtin .append, args := args, argTypes := ts }) (hts : ts = #[t, t]) (ha : args = #[x, y])
    (hu : P.underlying t = some (.slice e)) {s : Nat} {i : TypeInfo} {z : List AV} (hs : szOf P e = some s) (hi : P.info? e = some i) (hz : zeroOf P e = some z) (hzs : z.length = s) (h0 : 0 < s) (hb : i.bytes ≤ 1048576)
    (hv : VL Γ vs [ρ x, ρ y]) (hx : doApp s vs h nx = .ok v h' nx') : Done L Γ h nx w v h' nx' ((execOp ρ o).run P w) := by
  subst hts; subst ha
  have fin : ∀ {Γ' : G} {w' : World} {v' : Value}, (Builtin.append_ #[t, t] o.type #[ρ x, ρ y]).run P w = .ok v' w' → St L Γ h nx w Γ' h' nx' w' → V Γ' v v' → Done L Γ h nx w v h' nx' ((execOp ρ o).run P w) := by
    intro Γ' w' v' hrun hst hV
    refine Done.of ?_ hst hV
    simp only [execOp, ho, resolve, pure_bind, invoke, builtin, List.map_toArray, List.map_cons, List.map_nil]
    exact runv' hrun
  obtain ⟨zv, hzv, hz2⟩ := zero_of_info hi hz
  have his : i.size = s := by unfold szOf at hs; rw [hi] at hs; simpa using hs
  have hzsz : zv.cells.size = s := by rw [← Array.length_toList, (hz2 Γ).length, hzs]
  unfold doApp at hx
  split at hx
  · rename_i ax ay
    split at hx
    · rename_i n m r r' hn hm hrx hry
      cases hbig : Nat.ble (n + m) 16777216 with
      | false => simp [hbig] at hx
      | true =>
        simp only [hbig, cond_true] at hx
        have hbig := ble_le hbig
        obtain ⟨_, _, e', g1, g2⟩ := hv.inv2
        simp only [List.cons.injEq, and_true] at e'
        obtain ⟨e1, e2⟩ := e'
        rw [← e1] at g1; rw [← e2] at g2
        have hby : (n + m) * i.bytes ≤ 140737488355328 := by
          have := Nat.mul_le_mul hbig hb; omega
        have hy2 : ∃ q', VL Γ r' q' ∧ q'.length = m * s ∧ (Builtin.lenOf (ρ y)).run P w = .ok m w ∧ (Builtin.firstCells s m (ρ y)).run P w = .ok q'.toArray w ∧
            (m ≠ 0 → ∃ (ad : Addr) (cc : Nat), ρ y = .slice (some ad) m cc ∧ ∀ (j : Nat) (u : Value), q'[j]? = some u → w.cell? (ad.add j) = some u) := by
          rcases row_cells hr g2 hm hry with ⟨_, h2, h3, h4⟩ | ⟨b, off, c, ex, c', q, _, he, h2, hnc, hcc, _, _, hq, hql, hcell⟩ | ⟨_, _, _, ad, cap, q, _, h2, h3, h4, h5, hq, h6, h7⟩
          · subst h3; subst h4
            exact ⟨[], .nil, by simp, by rw [h2]; simp [Builtin.lenOf], by rw [h2]; exact firstCells_nil _ _ _, fun h => absurd rfl h⟩
          · refine ⟨q, hq, hql, by rw [h2]; simp [Builtin.lenOf], by rw [h2]; exact firstCells_some _ _ _ _ _ _ q hql hcell, fun _ => ⟨_, _, h2, ?_⟩⟩
            intro j u hu'; rw [Addr.add_mid]; exact hcell j u hu'
          · have hfirst : (Builtin.firstCells s m (ρ y)).run P w = .ok q.toArray w := by
              rw [h2]
              cases ad with
              | none =>
                have h5 := h5 rfl
                have : m = 0 := by omega
                subst this; rw [h5]
                have : q = [] := List.length_eq_zero_iff.1 (by omega)
                subst this
                exact firstCells_nil _ _ _
              | some ad =>
                have hq2 : (loadCells ad q.length).run P w = .ok q.toArray w := by
                  refine run_loadCells_list (P := P) w _ q (fun j u hu' => ?_)
                  obtain ⟨rb, off, h8, h9⟩ := h7 j u hu'
                  cases h8; rw [Addr.add_mid]; exact h9
                simp only [Builtin.firstCells, ← h6]; exact hq2
            refine ⟨q, hq, h6, by rw [h2]; simp [Builtin.lenOf], hfirst, fun hm0 => ?_⟩
            have hpos : 0 < q.length := by rw [h6]; exact Nat.mul_pos (by omega) h0
            obtain ⟨rb, off, h8, _⟩ := h7 0 q[0] (List.getElem?_eq_getElem hpos)
            subst h8
            refine ⟨⟨rb, off, none⟩, cap, h2, fun j u hu' => ?_⟩
            obtain ⟨_, _, h8, h9⟩ := h7 j u hu'
            cases h8; rw [Addr.add_mid]; exact h9
        obtain ⟨q', hq', hql', hlen, hfirst, hadr⟩ := hy2
        have hr'l : r'.length = m * s := by rw [← hq'.length, hql']
        rcases row_cells hr g1 hn hrx with ⟨rfl, h2, h3, h4⟩ | ⟨b, off, c, ex, c', q, rfl, he, h2, hnc, hcc', hcc, ⟨l, gr, hbl⟩, hq, hql, hcell⟩ | ⟨kz, lz, xx, ad0, cap, q, rfl, h2, hncap, hxx, had0, hq, hql, hcell⟩
        · subst h3; subst h4
          simp only at hx
          cases hm0 : Nat.beq m 0 with
          | true =>
            simp only [hm0, cond_true] at hx; cases hx
            have := Nat.eq_of_beq_eq_true hm0
            subst this
            exact fin (by rw [h2]; exact app_room_nil hu hs hlen hfirst) (St.refl hr) .ns
          | false =>
            simp only [hm0, cond_false, appNew] at hx; cases hx
            have hm0 := Nat.ne_of_beq_eq_false hm0
            obtain ⟨ad, cc, hady, hadc⟩ := hadr hm0
            rw [Nat.zero_add] at hby
            have hrun := run_append_nil (P := P) w t o.type e i zv hu hi hzv ad m cc q' (by rw [his]; exact hql') hadc (by omega) (by omega) (by omega)
            rw [← h2, ← hady] at hrun
            obtain ⟨hst, hV⟩ := new_app hL hr hq' e h0 hzsz hr'l m 0 rfl
            exact fin hrun hst (by rw [Nat.zero_add]; exact hV)
        · simp only [appS] at hx
          have hrl : r.length = n * s := by rw [← hq.length, hql]
          have hexbl := hr.cells he hbl
          cases hroom : Nat.ble (n + m) c with
          | true =>
            simp only [hroom, cond_true] at hx
            have hroom := ble_le hroom
            obtain ⟨rfl, rfl, w', hw', hst⟩ := put_run (P := P) hr he hq' hx
            refine fin (w' := w') ?_ hst (V.sl b off (n + m) c c' ex (hst.le.μ _ _ he) hroom hcc)
            rw [h2]
            exact app_room hu hs hlen hfirst (by rw [Addr.add_mid, Nat.add_assoc]; exact hw') (by omega)
          | false =>
            simp only [hroom, cond_false, hbl] at hx
            have hroom : c < n + m := by
              rcases Nat.lt_or_ge c (n + m) with h | h
              · exact h
              · rw [show Nat.ble (n + m) c = true from (by rw [Nat.ble_eq]; exact h)] at hroom; cases hroom
            have hm0 : m ≠ 0 := by omega
            obtain ⟨ad, cc, hady, hadc⟩ := hadr hm0
            have grow : c' < n + m → (Builtin.append_ #[t, t] o.type #[ρ x, ρ y]).run P w =
                .ok (.slice (some ⟨w.heap.size, 0, none⟩) (n + m) (grownCap w (n + m) c' e)) (w.drew.alloc (.cells (q.toArray ++ q'.toArray ++ Builtin.zeroCells zv.cells (grownCap w (n + m) c' e - (n + m))) e)) := by
              intro hlt
              rw [h2, hady]
              exact run_append_grow (P := P) w t o.type e i zv hu hi hzv ⟨ex.rb, ex.base + off, none⟩ n c' q (by rw [his]; exact hql) (fun j u hu' => by rw [Addr.add_mid]; exact hcell j u hu') ad m cc q' (by rw [his]; exact hql') hadc hlt (by omega)
                (growslice_fits hlt hby)
            have harr : q.toArray ++ q'.toArray = (q ++ q').toArray := by simp
            have hll : (r ++ r').length = (n + m) * s := by rw [List.length_append, hrl, hr'l, Nat.add_mul]
            cases hg0 : Nat.beq gr 0 with
            | true =>
              simp only [hg0, cond_true, appNew] at hx; cases hx
              have hg0 := Nat.eq_of_beq_eq_true hg0
              have : ex.gr = 0 := by rw [← hexbl.1]; exact hg0
              have hc' : c' = c := by rcases hcc with h | h <;> omega
              have hrun := grow (by omega)
              rw [harr] at hrun
              obtain ⟨hst, hV⟩ := new_app hL hr (hq.append hq') e h0 hzsz hll (n + m) c' rfl
              exact fin hrun hst hV
            | false =>
              simp only [hg0, cond_false] at hx
              cases hgs : Nat.beq gr s with
              | false => simp [hgs] at hx
              | true =>
                cases hsc : scalL r' with
                | false => simp [hgs, hsc] at hx
                | true =>
                simp only [hgs, hsc, cond_true, appNew] at hx; cases hx
                have hgs := Nat.eq_of_beq_eq_true hgs
                have hgr : ex.gr = s := by rw [← hexbl.1]; exact hgs
                by_cases hfit : c' < n + m
                · have hrun := grow hfit
                  rw [harr] at hrun
                  have hk := hr.kill he
                  obtain ⟨hst, hV⟩ := new_app hL hk.rel (hq.append hq') e h0 hzsz hll (n + m) c' rfl
                  exact fin hrun (St.trans hr hk hst) hV
                ·
                  obtain ⟨_, C, ty, pre, mid, post, hw, hC, hpl, hmid, hen, htot, hgz⟩ := hexbl
                  have hcase : 0 < ex.gr ∧ c ≤ c' ∧ off + c * ex.gr = ex.n ∧ off + c' * ex.gr ≤ ex.tot := by rcases hcc with h | h; omega; exact h
                  obtain ⟨_, _, hc3, hc4⟩ := hcase
                  rw [hgr] at hc3 hc4
                  have hmidl := hmid.length
                  have hsz : C.size = pre.length + mid.length + post.length := by rw [← Array.length_toList, hC]; simp; omega
                  have hnm : (n + m) * s = n * s + m * s := Nat.add_mul _ _ _
                  have hle1 : n * s ≤ c * s := Nat.mul_le_mul_right _ hnc
                  have hle2 : (n + m) * s ≤ c' * s := Nat.mul_le_mul_right _ (by omega)
                  have hone : ∀ u ∈ q', u.oneCell' = true := hq'.oneCells hsc
                  have hst := run_storeCells_at P ex.rb (ex.base + off + n * s) ty q' 0 C w hw (by rw [hql']; omega) hone
                  have hrun : (Builtin.append_ #[t, t] o.type #[ρ x, ρ y]).run P w = .ok (.slice (some ⟨ex.rb, ex.base + off, none⟩) (n + m) c')
                      (w.setRow ex.rb (C.toList.take (ex.base + off + n * s + 0) ++ q' ++ C.toList.drop (ex.base + off + n * s + 0 + q'.length)).toArray) := by
                    rw [h2]
                    exact app_room hu hs hlen hfirst (by rw [Addr.add_mid]; exact hst) (by omega)
                  have htake : C.toList.take (ex.base + off + n * s) = pre ++ mid.take off ++ q := by
                    have hqm : q = (mid.drop off).take (n * s) := by
                      apply List.ext_getElem?
                      intro j
                      rcases Nat.lt_or_ge j (n * s) with hj | hj
                      · have hjq : q[j]? = some q[j] := List.getElem?_eq_getElem (by omega)
                        have hce := hcell j _ hjq
                        unfold World.cell? at hce
                        rw [hw] at hce
                        have hce : C[ex.base + off + j]? = some q[j] := hce
                        rw [← Array.getElem?_toList, hC, List.append_assoc, List.getElem?_append_right (by omega), List.getElem?_append_left (by omega), hpl] at hce
                        rw [hjq, List.getElem?_take_of_lt hj, List.getElem?_drop, ← hce]
                        congr 1; omega
                      · rw [List.getElem?_eq_none (by omega), List.getElem?_eq_none (by rw [List.length_take]; omega)]
                    rw [hC, hqm, List.append_assoc pre mid post, show ex.base + off + n * s = pre.length + (off + n * s) by omega, List.take_length_add_append, List.take_append_of_le_length (by omega), List.append_assoc, ← List.take_add]
                  refine fin hrun (hr.adopt hL he ⟨_, hbl, by simp⟩ (.cells (r ++ r') s) (.cells (C.toList.take (ex.base + off + n * s + 0) ++ q' ++ C.toList.drop (ex.base + off + n * s + 0 + q'.length)).toArray ty (0, 0))
                    ⟨ex.rb, ex.base + off, (n + m) * s, ex.tot - off, s⟩ rfl (by simp) ?_ (setRow_heap w ex.rb C _ ty (0, 0) hw) (fun k hk => setRow_other w ex.rb k _ hk) (by simp) rfl rfl rfl) ?_
                  · refine .cells (e := ⟨ex.rb, ex.base + off, (n + m) * s, ex.tot - off, s⟩) (r ++ r') _ ty (pre ++ mid.take off) (q ++ q') (C.toList.drop (ex.base + off + n * s + 0 + q'.length)) ?_ ?_ (VL.mono (G.le_add _ hr.fresh) (hq.append hq')) hll.symm ?_ (fun h => absurd h (by show s ≠ 0; omega))
                    · show C.toList.take (ex.base + off + n * s + 0) ++ q' ++ C.toList.drop (ex.base + off + n * s + 0 + q'.length) = _
                      rw [Nat.add_zero, htake]; simp
                    · simp; omega
                    · show ex.tot - off = (r ++ r').length + (C.toList.drop (ex.base + off + n * s + 0 + q'.length)).length
                      rw [hll, List.length_drop, Array.length_toList, hsz, hql']; omega
                  · exact .sl nx 0 (n + m) (n + m) c' _ (G.add_same _ _) (Nat.le_refl _) (.inr ⟨h0, by omega, by show 0 + (n + m) * s = (n + m) * s; omega, by show 0 + c' * s ≤ ex.tot - off; omega⟩)
        ·
          simp only at hx
          cases hm0 : Nat.beq m 0 with
          | true =>
            simp only [hm0, cond_true] at hx; cases hx
            have := Nat.eq_of_beq_eq_true hm0
            subst this
            have hq0 : q' = [] := List.length_eq_zero_iff.1 (by rw [hql']; simp)
            subst hq0
            refine fin (w' := w) ?_ (St.refl hr) g1
            rw [h2]
            cases ad0 with
            | none =>
              have h5 := had0 rfl
              have : n = 0 := by omega
              subst this; rw [h5]
              exact app_room_nil hu hs hlen hfirst
            | some ad0 => exact app_room hu hs hlen hfirst (by simp [storeCells]) (by omega)
          | false =>
            simp only [hm0, cond_false] at hx
            have hm0 := Nat.ne_of_beq_eq_false hm0
            obtain ⟨ad, cc, hady, hadc⟩ := hadr hm0
            cases xx with
            | false => simp at hx
            | true =>
              simp only [cond_true, appNew] at hx; cases hx
              have hcap := hxx rfl
              subst hcap
              have hrl : r.length = cap * s := by rw [← hq.length, hql]
              have hll : (r ++ r').length = (cap + m) * s := by rw [List.length_append, hrl, hr'l, Nat.add_mul]
              have harr : q.toArray ++ q'.toArray = (q ++ q').toArray := by simp
              cases ad0 with
              | none =>
                have h5 := had0 rfl
                subst h5
                have hr0 : r = [] := List.length_eq_zero_iff.1 (by rw [hrl]; simp)
                subst hr0
                rw [Nat.zero_add] at hby hll
                have hrun := run_append_nil (P := P) w t o.type e i zv hu hi hzv ad m cc q' (by rw [his]; exact hql') hadc (by omega) (by omega) (by omega)
                rw [← h2, ← hady] at hrun
                obtain ⟨hst, hV⟩ := new_app hL hr hq' e h0 hzsz hr'l m 0 rfl
                exact fin hrun hst (by rw [Nat.zero_add]; exact hV)
              | some ad0 =>
                have hrun : (Builtin.append_ #[t, t] o.type #[ρ x, ρ y]).run P w =
                    .ok (.slice (some ⟨w.heap.size, 0, none⟩) (cap + m) (grownCap w (cap + m) cap e)) (w.drew.alloc (.cells (q.toArray ++ q'.toArray ++ Builtin.zeroCells zv.cells (grownCap w (cap + m) cap e - (cap + m))) e)) := by
                  rw [h2, hady]
                  exact run_append_grow (P := P) w t o.type e i zv hu hi hzv ad0 cap cap q (by rw [his]; exact hql) (fun j u hu' => by obtain ⟨rb, off, h8, h9⟩ := hcell j u hu'; cases h8; rw [Addr.add_mid]; exact h9) ad m cc q' (by rw [his]; exact hql') hadc (by omega) (by omega)
                    (growslice_fits (by omega) hby)
                rw [harr] at hrun
                obtain ⟨hst, hV⟩ := new_app hL hr (hq.append hq') e h0 hzsz hll (cap + m) cap rfl
                exact fin hrun hst hV
    · cases hx
  · cases hx
end
end Go.AR
namespace Go.AR
section
variable {L : LoopOk} {Γ : G} {h h' : Tr Blk} {nx nx' : Pos} {w : World} {v : AV} {P : Program} {o : Oper} {ρ : Operand → Value} {vs : List AV}
theorem mnL_run {k : IntKind} : ∀ {l : List AV} {vl : List Value} {a r : Int}, VL Γ l vl → mnL a k l = some r → ∀ w : World, (vl.foldlM Builtin.min2 (Value.int k a)).run P w = .ok (.int k r) w
  | [], _, a, r, hl, hm, w => by cases hl; cases hm; simp
  | x :: l, _, a, r, .cons hx ht, hm, w => by
    unfold mnL at hm
    split at hm
    · simp at *
    · rename_i j b l' e
      obtain ⟨rfl, rfl⟩ := List.cons.inj e
      cases hx
      cases hk : keq k j with
      | false => simp [hk] at hm
      | true =>
        have := keq_eq hk; subst this
        simp only [hk, cond_true] at hm
        have h2 : ∀ w : World, (Builtin.min2 (.int k a) (.int k b)).run P w = .ok (.int k (bif ilt b a then b else a)) w := fun w => by
          rw [ilt_eq]; by_cases hlt : b < a <;> simp [Builtin.min2, hlt]
        rw [List.foldlM_cons, Sem.run_bind, h2 w]
        exact mnL_run ht hm w
    · cases hm
theorem mxL_run {k : IntKind} : ∀ {l : List AV} {vl : List Value} {a r : Int}, VL Γ l vl → mxL a k l = some r → ∀ w : World, (vl.foldlM Builtin.max2 (Value.int k a)).run P w = .ok (.int k r) w
  | [], _, a, r, hl, hm, w => by cases hl; cases hm; simp
  | x :: l, _, a, r, .cons hx ht, hm, w => by
    unfold mxL at hm
    split at hm
    · simp at *
    · rename_i j b l' e
      obtain ⟨rfl, rfl⟩ := List.cons.inj e
      cases hx
      cases hk : keq k j with
      | false => simp [hk] at hm
      | true =>
        have := keq_eq hk; subst this
        simp only [hk, cond_true] at hm
        have h2 : ∀ w : World, (Builtin.max2 (.int k a) (.int k b)).run P w = .ok (.int k (bif ilt a b then b else a)) w := fun w => by
          rw [ilt_eq]; by_cases hlt : a < b <;> simp [Builtin.max2, hlt]
        rw [List.foldlM_cons, Sem.run_bind, h2 w]
        exact mxL_run ht hm w
    · cases hm
theorem d_mn (hr : R L Γ h nx w) {args : Array Operand} {ts : Array TypeId} (ho : o.op = .call { callee := .builtin .min, args := args, argTypes := ts })
    (hv : VL Γ vs (args.toList.map ρ)) (hx : doMn vs h nx = .ok v h' nx') : Done L Γ h nx w v h' nx' ((execOp ρ o).run P w) := by
  unfold doMn at hx
  split at hx
  · rename_i k a l
    cases hm : mnL a k l with
    | none => simp [hm] at hx
    | some n =>
      simp only [hm] at hx; cases hx
      generalize hq : args.toList.map ρ = q at hv
      cases hv with | cons h1 h2 =>
      cases h1
      simp only [execOp, ho, resolve, pure_bind, invoke, builtin]
      have hA : (args.map ρ).toList = args.toList.map ρ := by simp
      have : (Builtin.min_ ts o.type (args.map ρ)).run P w = .ok (.int k n) w := by
        unfold Builtin.min_
        rw [hA, hq]
        exact mnL_run h2 hm w
      rw [runv this]
      exact Done.same hr (.i _ _)
  · cases hx
theorem d_mx (hr : R L Γ h nx w) {args : Array Operand} {ts : Array TypeId} (ho : o.op = .call { callee := .builtin .max, args := args, argTypes := ts })
    (hv : VL Γ vs (args.toList.map ρ)) (hx : doMx vs h nx = .ok v h' nx') : Done L Γ h nx w v h' nx' ((execOp ρ o).run P w) := by
  unfold doMx at hx
  split at hx
  · rename_i k a l
    cases hm : mxL a k l with
    | none => simp [hm] at hx
    | some n =>
      simp only [hm] at hx; cases hx
      generalize hq : args.toList.map ρ = q at hv
      cases hv with | cons h1 h2 =>
      cases h1
      simp only [execOp, ho, resolve, pure_bind, invoke, builtin]
      have hA : (args.map ρ).toList = args.toList.map ρ := by simp
      have : (Builtin.max_ ts o.type (args.map ρ)).run P w = .ok (.int k n) w := by
        unfold Builtin.max_
        rw [hA, hq]
        exact mxL_run h2 hm w
      rw [runv this]
      exact Done.same hr (.i _ _)
  · cases hx
theorem ceq_same {ek : EK} {x y : AV} {a b : Value} (hx : V Γ x a) (hy : V Γ y b) (hc : ceq ek x y = some true) : a = b ∧ ∀ n, Instr.sameBits n a a = true := by
  unfold ceq at hc
  split at hc
  · rename_i k x j y
    cases hk : keq k j with
    | false => simp [hk] at hc
    | true =>
      have := keq_eq hk; subst this
      simp only [hk, cond_true, Option.some.injEq] at hc
      cases hx; cases hy
      rw [ieq_eq] at hc
      have : x = y := by simpa using hc
      subst this
      exact ⟨rfl, fun n => by cases n <;> simp [Instr.sameBits]⟩
  · cases hx; cases hy
    simp only [Option.some.injEq, beq_iff_eq] at hc
    subst hc
    exact ⟨rfl, fun n => by cases n <;> simp [Instr.sameBits]⟩
  · rename_i x y
    cases hx; cases hy
    simp only [Option.some.injEq] at hc
    rw [neqL_eq] at hc
    have : x = y := by simpa using hc
    subst this
    refine ⟨rfl, fun n => ?_⟩
    have hb : (bytesOf x == bytesOf x) = true := (MapKept.bytes_beq _ _).2 rfl
    cases n <;> simp [Instr.sameBits, hb]
  · cases hc
theorem ceqL_same {ek : EK} : ∀ {x y : List AV} {a b : List Value}, VL Γ x a → VL Γ y b → ceqL ek x y = some true → a = b ∧ ∀ n, ∀ u ∈ a, Instr.sameBits n u u = true
  | [], [], _, _, hx, hy, _ => by cases hx; cases hy; exact ⟨rfl, fun n u hu => by cases hu⟩
  | [], _ :: _, _, _, _, _, hc => by cases hc
  | _ :: _, [], _, _, _, _, hc => by cases hc
  | p :: x, q :: y, _, _, .cons h1 h2, .cons h3 h4, hc => by
    unfold ceqL at hc
    cases hp : ceq ek p q with
    | none => simp [hp] at hc
    | some r =>
      cases r with
      | false => simp only [hp] at hc; cases hb : Nat.beq x.length y.length <;> simp [hb] at hc
      | true =>
        simp only [hp] at hc
        obtain ⟨e1, f1⟩ := ceq_same h1 h3 hp
        obtain ⟨e2, f2⟩ := ceqL_same h2 h4 hc
        refine ⟨by rw [e1, e2], fun n u hu => ?_⟩
        cases hu with
        | head => exact f1 n
        | tail _ hu => exact f2 n u hu
theorem cmpV_same {m : Nat} {ek : EK} {x y : AV} {a b : Value} (hx : V Γ x a) (hy : V Γ y b) (hc : cmpV m ek x y = some true) : a = b ∧ ∀ n, Instr.sameBits (n + 1) a a = true := by
  have scal : (bif Nat.beq m 0 then ceq ek x y else none) = some true → a = b ∧ ∀ n, Instr.sameBits (n + 1) a a = true := by
    intro h2
    cases hm : Nat.beq m 0 with
    | false => simp [hm] at h2
    | true =>
      simp only [hm, cond_true] at h2
      obtain ⟨e1, f1⟩ := ceq_same hx hy h2
      exact ⟨e1, fun n => f1 _⟩
  unfold cmpV at hc
  split at hc
  · rename_i p q
    cases hm : Nat.beq m 0 with
    | true => simp [hm] at hc
    | false =>
      simp only [hm, cond_false] at hc
      cases hl : Nat.beq p.length m with
      | false => simp [hl] at hc
      | true =>
        simp only [hl, cond_true] at hc
        cases hx with | a _ xs hx => cases hy with | a _ ys hy =>
        obtain ⟨e1, f1⟩ := ceqL_same hx hy hc
        refine ⟨by rw [Array.ext' e1], fun n => ?_⟩
        simp only [Instr.sameBits, beq_self_eq_true, Bool.true_and, List.all_eq_true]
        intro pr hpr
        obtain ⟨u, hu, rfl⟩ : ∃ u ∈ xs.toList, pr = (u, u) := by
          have : ∀ (l : List Value) (pr : Value × Value), pr ∈ l.zip l → ∃ u ∈ l, pr = (u, u) := by
            intro l
            induction l with
            | nil => intro pr h; cases h
            | cons c l ih =>
              intro pr h
              rw [List.zip_cons_cons] at h
              cases h with
              | head => exact ⟨c, by simp, rfl⟩
              | tail _ h => obtain ⟨u, hu, e⟩ := ih pr h; exact ⟨u, by simp [hu], e⟩
          exact this _ _ hpr
        exact f1 n u hu
  · exact scal hc
theorem part_cell {e : TypeId} {ek : EK} (he : ekOf P e = some ek) (w : World) {xs : Array Value} {k : Nat} (hk : k < xs.size) : ∃ a, (part e xs k).run P w = .ok a w :=
  ⟨xs[k], part_run (ekOf_agg he) (Array.getElem?_eq_getElem hk) w⟩
theorem ekOf_check {e : TypeId} {ek : EK} (he : ekOf P e = some ek) (em : Bool) (n : Nat) (a : Value) (w : World) : (Instr.checkKey em (n + 1) e a).run P w = .ok () w := by
  unfold ekOf at he
  unfold Instr.checkKey
  cases hu : P.underlying e with
  | none => rw [hu] at he; cases he
  | some d => rw [hu] at he; simp only [Sem.run_bind, run_underlying hu, Result.andThen_ok]; cases d <;> first | rfl | (cases he; done)
theorem checkKey_run {t : TypeId} {m : Nat} {ek : EK} (ht : eqN P t = some (m, ek)) {x : AV} {a : Value} (hx : V Γ x a) (hk : keyOk m x = true) (em : Bool) (w : World) : (Instr.checkKey em 10000 t a).run P w = .ok () w := by
  by_cases hm : m = 0
  · subst hm
    exact ekOf_check (eqN_scal ht) em 9999 a w
  · obtain ⟨e, h1, h2, h3⟩ := eqN_row ht hm
    unfold keyOk at hk
    split at hk
    · rename_i l
      cases hb : Nat.beq m 0 with
      | true => exact absurd (Nat.eq_of_beq_eq_true hb) hm
      | false =>
        simp only [hb, cond_false] at hk
        have hl := Nat.eq_of_beq_eq_true hk
        cases hx with | a _ xs hx =>
        have hsz : xs.size = m := by rw [← Array.length_toList, hx.length, hl]
        show (Instr.checkKey em (9999 + 1) t (.agg xs)).run P w = .ok () w
        unfold Instr.checkKey
        simp only [Sem.run_bind, run_underlying h1, Result.andThen_ok]
        simp only [Std.Legacy.Range.forIn_eq_forIn_range', Std.Legacy.Range.size, Nat.sub_zero, Nat.add_one_sub_one, Nat.div_one]
        have each : ∀ j ∈ List.range' 0 m, j < xs.size := fun j hj => by rw [List.mem_range'_1] at hj; omega
        generalize List.range' 0 m = is at each
        induction is with
        | nil => simp
        | cons j is ih =>
          obtain ⟨c, hc⟩ := part_cell h2 w (xs := xs) (k := j * 1) (by rw [Nat.mul_one]; exact each j (by simp))
          have hcc := ekOf_check h2 em 9998 c w
          simp only [List.forIn_cons, Sem.run_bind, szOf_run h3, Result.andThen_ok, hc, hcc, Sem.run_pure]
          exact ih (fun y hy => each y (by simp [hy]))
    · exact absurd (Nat.eq_of_beq_eq_true hk) hm
inductive Hit (m : Nat) (ek : EK) (k : AV) : List (AV × AV) → List MapEntry → Nat → Option (Nat × Value) → Prop
  | nil (i : Nat) : Hit m ek k [] [] i none
  | yes {x : AV × AV} {l : List (AV × AV)} {en : MapEntry} {es : List MapEntry} (i : Nat) (h : cmpV m ek k x.1 = some true) : Hit m ek k (x :: l) (en :: es) i (some (i, en.val))
  | no {x : AV × AV} {l : List (AV × AV)} {en : MapEntry} {es : List MapEntry} {i : Nat} {r : Option (Nat × Value)} (h : cmpV m ek k x.1 = some false) (t : Hit m ek k l es (i + 1) r) : Hit m ek k (x :: l) (en :: es) i r
theorem findAsking_run {t : TypeId} {m : Nat} {ek : EK} (ht : eqN P t = some (m, ek)) {k : AV} {kv : Value} (hk : V Γ k kv) (w : World) {l : List (AV × AV)} {es : List MapEntry} (hl : EL Γ l es)
    (hd : ∀ x ∈ l, ∃ b, cmpV m ek k x.1 = some b) : ∀ i, ∃ r, (Instr.findAsking t kv es i).run P w = .ok r w ∧ Hit m ek k l es i r := by
  induction hl with
  | nil => exact fun i => ⟨none, by simp [Instr.findAsking], .nil i⟩
  | cons hk' hv' tl ih =>
    rename_i k' v' l' e' es'
    intro i
    obtain ⟨b, hb⟩ := hd (k', v') (by simp)
    have hq : (Op.equal t kv e'.key).run P w = .ok b w := cmpV_run ht hk hk' hb 9998 w
    cases b with
    | true => exact ⟨_, by simp [Instr.findAsking, hq], .yes i hb⟩
    | false =>
      obtain ⟨r, h1, h2⟩ := ih (fun x hx => hd x (by simp [hx])) (i + 1)
      exact ⟨r, by simp [Instr.findAsking, hq, h1], .no hb h2⟩
theorem sameNow_cmp (w : World) {t : TypeId} {d : TypeDesc} (hu : P.underlying t = some d) {m : Nat} {ek : EK} (ht : eqN P t = some (m, ek)) {x y : AV} {a b : Value} (hx : V Γ x a) (hy : V Γ y b) {r r' : Bool}
    (hc : cmpV m ek x y = some r) (hs : Instr.sameNow d a b = some r') : r' = r := by
  have hq := cmpV_run ht hx hy hc 0 w
  unfold Instr.sameNow at hs
  split at hs
  · split at hs
    · rename_i hkk
      subst hkk
      simp only [Option.some.injEq] at hs
      simp [Op.equalIn, run_underlying hu, hs] at hq
      exact hq
    · cases hs
  · simp only [Option.some.injEq] at hs
    simp [Op.equalIn, run_underlying hu, hs] at hq
    exact hq
  · simp only [Option.some.injEq] at hs
    simp [Op.equalIn, run_underlying hu, hs] at hq
    exact hq
  · cases hs
theorem findNow_hit (w : World) {t : TypeId} {d : TypeDesc} (hu : P.underlying t = some d) {m : Nat} {ek : EK} (ht : eqN P t = some (m, ek)) {k : AV} {kv : Value} (hk : V Γ k kv) {l : List (AV × AV)} {es : List MapEntry} (hl : EL Γ l es)
    (hd : ∀ x ∈ l, ∃ b, cmpV m ek k x.1 = some b) : ∀ i r, Instr.findNow d kv es i = some r → Hit m ek k l es i r := by
  induction hl with
  | nil => intro i r hr; cases hr; exact .nil i
  | cons hk' hv' tl ih =>
    rename_i k' v' l' e' es'
    intro i r hr
    obtain ⟨b, hb⟩ := hd (k', v') (by simp)
    unfold Instr.findNow at hr
    cases hs : Instr.sameNow d kv e'.key with
    | none => rw [hs] at hr; cases hr
    | some q =>
      have hqb := sameNow_cmp w hu ht hk hk' hb hs
      subst hqb
      rw [hs] at hr
      cases q with
      | true => cases hr; exact .yes i hb
      | false => exact .no hb (ih (fun x hx => hd x (by simp [hx])) (i + 1) r hr)
theorem findKey_run {t : TypeId} {m : Nat} {ek : EK} (ht : eqN P t = some (m, ek)) {k : AV} {kv : Value} (hk : V Γ k kv) (w : World) {l : List (AV × AV)} {es : List MapEntry} (hl : EL Γ l es)
    (hd : ∀ x ∈ l, ∃ b, cmpV m ek k x.1 = some b) : ∃ r, (Instr.findKey t kv es).run P w = .ok r w ∧ Hit m ek k l es 0 r := by
  obtain ⟨d, hu⟩ : ∃ d, P.underlying t = some d := by
    unfold eqN at ht
    cases hu : P.underlying t with
    | none => rw [hu] at ht; simp [ekOf, hu] at ht
    | some d => exact ⟨d, rfl⟩
  cases hf : Instr.findNow d kv es 0 with
  | some r => exact ⟨r, by simp [Instr.findKey, run_underlying hu, hf], findNow_hit w hu ht hk hl hd 0 r hf⟩
  | none =>
    obtain ⟨r, h1, h2⟩ := findAsking_run ht hk w hl hd 0
    exact ⟨r, by simp [Instr.findKey, run_underlying hu, hf, h1], h2⟩
theorem Hit.none_inv {m : Nat} {ek : EK} {k : AV} {l : List (AV × AV)} {es : List MapEntry} {i : Nat} {r : Option (Nat × Value)} (h : Hit m ek k l es i r) : r = none → ∀ x ∈ l, cmpV m ek k x.1 = some false := by
  induction h with
  | nil => intro _ x hx; cases hx
  | yes i h => intro e; cases e
  | no h t ih =>
    intro e x hx
    cases hx with
    | head => exact h
    | tail _ hx => exact ih e x hx
theorem Hit.some_inv {m : Nat} {ek : EK} {k : AV} {l : List (AV × AV)} {es : List MapEntry} {i : Nat} {r : Option (Nat × Value)} (h : Hit m ek k l es i r) : ∀ n u, r = some (n, u) →
    ∃ l1 x l2 e1 en e2, l = l1 ++ x :: l2 ∧ es = e1 ++ en :: e2 ∧ l1.length = e1.length ∧ n = i + e1.length ∧ u = en.val ∧ cmpV m ek k x.1 = some true := by
  induction h with
  | nil => intro n u e; cases e
  | yes i h => intro n u e; cases e; exact ⟨[], _, _, [], _, _, rfl, rfl, rfl, rfl, rfl, h⟩
  | no h t ih =>
    intro n u e
    obtain ⟨l1, x, l2, e1, en, e2, h1, h2, h3, h4, h5, h6⟩ := ih n u e
    exact ⟨_ :: l1, x, l2, _ :: e1, en, e2, by rw [h1]; rfl, by rw [h2]; rfl, by simp [h3], by rw [h4]; simp; omega, h5, h6⟩
theorem findE_def {m : Nat} {ek : EK} {k : AV} : ∀ {l : List (AV × AV)} {r : Option AV}, findE m ek k l = some r → ∀ x ∈ l, ∃ b, cmpV m ek k x.1 = some b
  | [], _, _, x, hx => by cases hx
  | y :: l, r, h, x, hx => by
    unfold findE at h
    split at h
    · rename_i h1
      cases hx with
      | head => exact ⟨_, h1⟩
      | tail _ hx => exact findE_def h x hx
    · rename_i h1 h2
      cases hx with
      | head => exact ⟨_, h1⟩
      | tail _ hx => exact findE_def h2 x hx
    · cases h
theorem findE_none {m : Nat} {ek : EK} {k : AV} : ∀ {l : List (AV × AV)}, findE m ek k l = some none → ∀ x ∈ l, cmpV m ek k x.1 = some false
  | [], _, x, hx => by cases hx
  | y :: l, h, x, hx => by
    unfold findE at h
    split at h
    · rename_i h1
      cases hx with
      | head => exact h1
      | tail _ hx => exact findE_none h x hx
    · cases h
    · cases h
theorem findE_some {m : Nat} {ek : EK} {k v : AV} : ∀ {l : List (AV × AV)}, findE m ek k l = some (some v) →
    ∃ l1 x l2, l = l1 ++ x :: l2 ∧ x.2 = v ∧ cmpV m ek k x.1 = some true ∧ ∀ y ∈ l1 ++ l2, cmpV m ek k y.1 = some false
  | [], h => by cases h
  | y :: l, h => by
    unfold findE at h
    split at h
    · rename_i h1
      obtain ⟨l1, x, l2, rfl, h2, h3, h4⟩ := findE_some h
      refine ⟨y :: l1, x, l2, rfl, h2, h3, fun z hz => ?_⟩
      cases hz with
      | head => exact h1
      | tail _ hz => exact h4 z hz
    · rename_i h1 h2
      cases h
      exact ⟨[], y, l, rfl, rfl, h1, fun z hz => findE_none h2 z hz⟩
    · cases h
theorem repE_false {m : Nat} {ek : EK} {k v : AV} : ∀ {l : List (AV × AV)}, (∀ x ∈ l, cmpV m ek k x.1 = some false) → repE m ek k v l = l
  | [], _ => rfl
  | y :: l, h => by unfold repE; rw [h y (by simp)]; simp only; rw [repE_false (fun x hx => h x (by simp [hx]))]
theorem repE_some {m : Nat} {ek : EK} {k v : AV} {x : AV × AV} {l2 : List (AV × AV)} (hx : cmpV m ek k x.1 = some true) : ∀ {l1 : List (AV × AV)}, (∀ y ∈ l1 ++ l2, cmpV m ek k y.1 = some false) → repE m ek k v (l1 ++ x :: l2) = l1 ++ (k, v) :: l2
  | [], h => by show repE m ek k v (x :: l2) = _; unfold repE; rw [hx]; simp only; rw [repE_false (fun x hx => h x (by simpa using hx))]; rfl
  | y :: l1, h => by
    show repE m ek k v (y :: (l1 ++ x :: l2)) = _
    unfold repE; rw [h y (by simp)]; simp only; rw [repE_some hx (fun z hz => h z (by simp at hz ⊢; exact .inr hz))]; rfl
theorem hit_find {m : Nat} {ek : EK} {k : AV} {l l' : List (AV × AV)} (hp : l'.Perm l) {es : List MapEntry} {r : Option (Nat × Value)} {q : Option AV} (hq : findE m ek k l = some q) (hh : Hit m ek k l' es 0 r) :
    (r = none ∧ q = none) ∨ ∃ l1 x l2 e1 en e2, l' = l1 ++ x :: l2 ∧ es = e1 ++ en :: e2 ∧ l1.length = e1.length ∧ r = some (e1.length, en.val) ∧ q = some x.2 ∧ cmpV m ek k x.1 = some true := by
  cases r with
  | none =>
    left
    refine ⟨rfl, ?_⟩
    have hf := hh.none_inv rfl
    cases q with
    | none => rfl
    | some v =>
      obtain ⟨l1, x, l2, rfl, _, h3, _⟩ := findE_some hq
      have := hf x (hp.mem_iff.2 (by simp))
      rw [h3] at this; cases this
  | some p =>
    right
    obtain ⟨n, u⟩ := p
    obtain ⟨l1, x, l2, e1, en, e2, h1, h2, h3, h4, h5, h6⟩ := hh.some_inv n u rfl
    refine ⟨l1, x, l2, e1, en, e2, h1, h2, h3, by rw [h4, h5]; simp, ?_, h6⟩
    have hx : x ∈ l := hp.mem_iff.1 (by rw [h1]; simp)
    cases q with
    | none => have := findE_none hq x hx; rw [h6] at this; cases this
    | some v =>
      obtain ⟨m1, y, m2, rfl, g2, g3, g4⟩ := findE_some hq
      have : x = y := by
        rcases List.mem_append.1 hx with hx | hx
        · have := g4 x (by simp [hx]); rw [h6] at this; cases this
        · cases hx with
          | head => rfl
          | tail _ hx => have hx : x ∈ m2 := hx; have := g4 x (by simp [hx]); rw [h6] at this; cases this
      rw [this, g2]
theorem EL.append {l1 l2 : List (AV × AV)} {e1 e2 : List MapEntry} (h1 : EL Γ l1 e1) (h2 : EL Γ l2 e2) : EL Γ (l1 ++ l2) (e1 ++ e2) := by
  induction h1 with
  | nil => exact h2
  | cons hk hv _ ih => exact .cons hk hv ih
theorem EL.split {l1 : List (AV × AV)} : ∀ {e1 : List MapEntry} {l2 : List (AV × AV)} {e2 : List MapEntry}, l1.length = e1.length → EL Γ (l1 ++ l2) (e1 ++ e2) → EL Γ l1 e1 ∧ EL Γ l2 e2 := by
  induction l1 with
  | nil => intro e1 l2 e2 hl h; cases e1 with | nil => exact ⟨.nil, h⟩ | cons _ _ => simp at hl
  | cons x l1 ih =>
    intro e1 l2 e2 hl h
    cases e1 with
    | nil => simp at hl
    | cons e e1 =>
      have h : EL Γ (x :: (l1 ++ l2)) (e :: (e1 ++ e2)) := h
      cases h with
      | cons hk hv t =>
        obtain ⟨h1, h2⟩ := ih (by simpa using hl) t
        exact ⟨.cons hk hv h1, h2⟩
theorem R.map (hr : R L Γ h nx w) {b : Pos} {e : Ext} (he : Γ.μ b = some e) {l : List (AV × AV)} (hb : h.get b = some (.map l)) : ∃ es ck l', w.heap[e.rb]? = some (.map es ck) ∧ l'.Perm l ∧ EL Γ l' es.toList := by
  obtain ⟨B, hB, hd⟩ := hr.blk b e he
  rw [hb] at hB; cases hB
  rcases hd with hd | ⟨o, ho, hrel⟩
  · cases hd
  · cases hrel with | map _ es ck hm => obtain ⟨l', h1, h2⟩ := hm; exact ⟨es, ck, l', ho, h1, h2⟩
theorem d_mkmap (hL : LMono L) (hr : R L Γ h nx w) {t : TypeId} (ho : o.op = .makeMap t none) (hv : VL Γ vs []) (hx : doMkmap vs h nx = .ok v h' nx') : Done L Γ h nx w v h' nx' ((execOp ρ o).run P w) := by
  cases hv
  cases hx
  have hrun : (Instr.makeMap t none).run P w = .ok (.map (some w.heap.size)) (w.alloc (.map #[] 0)) := by simp [Instr.makeMap]
  refine Done.of (w' := w.alloc (.map #[] 0)) ?_ (hr.alloc hL (.map []) (.map #[] 0) ⟨w.heap.size, 0, 0, 0, 0⟩ rfl (by simp) (.map [] #[] 0 ⟨[], .refl _, .nil⟩)) (V.m nx _ (G.add_same _ _))
  simp only [execOp, ho, Option.map_none]
  exact runv' hrun
theorem d_look (hr : R L Γ h nx w) {t kt e : TypeId} {x k : Operand} {ok : Bool} (ho : o.op = .lookup t x k ok) (hu : P.underlying t = some (.map kt e)) {z : AV} {m : Nat} {ek : EK} (hz : zero1 P e = some z) (hq : eqN P kt = some (m, ek))
    (hv : VL Γ vs [ρ x, ρ k]) (hx : doLook z ok m ek vs h nx = .ok v h' nx') : Done L Γ h nx w v h' nx' ((execOp ρ o).run P w) := by
  obtain ⟨zv, hzr, hzV⟩ : ∃ zv, (∀ w : World, (zeroValue e).run P w = .ok zv w) ∧ V Γ z zv := by
    unfold zero1 at hz
    split at hz
    · rename_i cs h1 h2
      cases hc : allO compV cs.toList with
      | none => simp [hc] at hz
      | some l => simp only [hc, Option.map_some, Option.some.injEq] at hz; subst hz; exact ⟨.agg cs, fun w => zeroV_run h2 w, .a _ _ (allO_compV hc)⟩
    · rename_i zv h1 h2; exact ⟨zv, fun w => zeroV_run h2 w, compV_V hz⟩
    · cases hz
  have fin : ∀ {r : Option AV} {y : Value}, (Instr.lookup t (ρ x) (ρ k) ok).run P w = .ok y w → V Γ (lookR ok z r) y → Done L Γ h nx w (lookR ok z r) h nx ((execOp ρ o).run P w) := by
    intro r y hrun hV
    refine Done.of (w' := w) ?_ (St.refl hr) hV
    simp only [execOp, ho]
    exact runv' hrun
  have tupV : ∀ {r : Option AV} {u : Value}, V Γ (Option.casesOn r z (fun v => v)) u → V Γ (lookR ok z r) (if ok then .tuple #[u, .bool r.isSome] else u) := by
    intro r u hu
    cases ok with
    | false => exact hu
    | true => cases r with
      | none => exact .t _ _ (.cons hu (.cons (.b false) .nil))
      | some a => exact .t _ _ (.cons hu (.cons (.b true) .nil))
  unfold doLook at hx
  split at hx
  · rename_i b ak
    obtain ⟨_, _, e', g1, g2⟩ := hv.inv2
    simp only [List.cons.injEq, and_true] at e'
    obtain ⟨e1, e2⟩ := e'
    rw [← e1] at g1; rw [← e2] at g2
    cases hko : keyOk m ak with
    | false => simp [hko] at hx
    | true =>
      simp only [hko, cond_true] at hx
      split at hx
      · rename_i l hb
        split at hx
        · rename_i r hf
          cases hx
          generalize hxm : ρ x = xm at g1
          cases g1 with | m _ ex he =>
          obtain ⟨es, ck, l', hob, hp, hel⟩ := hr.map he hb
          obtain ⟨R, hR, hit⟩ := findKey_run hq g2 w hel (fun y hy => findE_def hf y (hp.mem_iff.1 hy))
          have hck := checkKey_run (P := P) hq g2 hko es.isEmpty w
          rcases hit_find hp hf hit with ⟨rfl, rfl⟩ | ⟨l1, y, l2, e1', en, e2', h1, h2, h3, rfl, rfl, h6⟩
          · refine fin (r := none) (y := if ok then .tuple #[zv, .bool false] else zv) ?_ (tupV hzV)
            rw [hxm]
            simp only [Instr.lookup, Sem.run_bind, run_underlying hu, Result.andThen_ok, MapKept.run_getObj_map hob, hck, hR, hzr, Sem.run_pure]
          · rw [h1, h2] at hel
            obtain ⟨_, hel2⟩ := EL.split h3 hel
            have hyv : V Γ y.2 en.val := by cases hel2 with | cons hk hv _ => exact hv
            refine fin (r := some y.2) (y := if ok then .tuple #[en.val, .bool true] else en.val) ?_ (tupV hyv)
            rw [hxm]
            simp only [Instr.lookup, Sem.run_bind, run_underlying hu, Result.andThen_ok, MapKept.run_getObj_map hob, hck, hR, Sem.run_pure]
        · cases hx
      · cases hx
  · rename_i ak
    obtain ⟨_, _, e', g1, g2⟩ := hv.inv2
    simp only [List.cons.injEq, and_true] at e'
    obtain ⟨e1, e2⟩ := e'
    rw [← e1] at g1; rw [← e2] at g2
    cases hko : keyOk m ak with
    | false => simp [hko] at hx
    | true =>
      simp only [hko, cond_true] at hx
      cases hx
      generalize hxm : ρ x = xm at g1
      cases g1
      have hck := checkKey_run (P := P) hq g2 hko true w
      obtain ⟨R, hR, hit⟩ := findKey_run (Γ := Γ) hq g2 w .nil (fun y hy => by cases hy)
      cases hit
      refine fin (r := none) (y := if ok then .tuple #[zv, .bool false] else zv) ?_ (tupV hzV)
      rw [hxm]
      simp only [Instr.lookup, Sem.run_bind, run_underlying hu, Result.andThen_ok, Sem.run_pure, List.isEmpty_toArray, List.isEmpty_nil, hck, hR, hzr]
  · cases hx
end
end Go.AR
namespace Go.AR
section
variable {L : LoopOk} {Γ : G} {h h' : Tr Blk} {nx nx' : Pos} {w : World} {v : AV} {P : Program} {o : Oper} {ρ : Operand → Value} {vs : List AV}
theorem modify_mid {α : Type} (f : α → α) (x : α) : ∀ (a b : List α), (a ++ x :: b).modify a.length f = a ++ f x :: b
  | [], b => rfl
  | y :: a, b => by have := modify_mid f x a b; simpa using this
theorem upd_run {t kt e : TypeId} (hu : P.underlying t = some (.map kt e)) {m : Nat} {ek : EK} (hq : eqN P kt = some (m, ek)) {k x : AV} {kv xv : Value} (hk : V Γ k kv) (hx : V Γ x xv) (hko : keyOk m k = true)
    {l l2 l' : List (AV × AV)} (hs : setE m ek k x l = some l2) {es : Array MapEntry} (hp : l'.Perm l) (hel : EL Γ l' es.toList) {r ck : Nat} (hob : w.heap[r]? = some (.map es ck)) :
    ∃ es2 ck2 l2', (Instr.mapUpdate t (.map (some r)) kv xv).run P w = .ok () { w with heap := w.heap.setIfInBounds r (.map es2 ck2) } ∧ l2'.Perm l2 ∧ EL Γ l2' es2.toList := by
  have hck := checkKey_run (P := P) hq hk hko false w
  unfold setE at hs
  cases hf : findE m ek k l with
  | none => simp [hf] at hs
  | some q =>
    obtain ⟨R, hR, hit⟩ := findKey_run hq hk w hel (fun y hy => findE_def hf y (hp.mem_iff.1 hy))
    rcases hit_find hp hf hit with ⟨rfl, rfl⟩ | ⟨l1, y, l3, e1, en, e2, h1, h2, h3, rfl, rfl, h6⟩
    · simp only [hf, Option.some.injEq] at hs
      subst hs
      refine ⟨es.push { key := kv, val := xv, born := ck }, ck + 1, l' ++ [(k, x)], ?_, hp.append_right _, ?_⟩
      · simp only [Instr.mapUpdate, Sem.run_bind, run_underlying hu, Result.andThen_ok, MapKept.run_getObj_map hob, hck, hR]
        exact MapKept.run_setObj_map _ hob
      · rw [Array.toList_push]
        exact hel.append (.cons hk hx .nil)
    · simp only [hf, Option.some.injEq] at hs
      subst hs
      have hget : es[e1.length]? = some en := by rw [← Array.getElem?_toList, h2]; simp
      have hky : V Γ y.1 en.key := by
        rw [h1, h2] at hel
        obtain ⟨_, hel2⟩ := EL.split h3 hel
        cases hel2 with | cons hk hv _ => exact hk
      obtain ⟨heq, hsb⟩ := cmpV_same hk hky h6
      have hst : (Instr.keyThatStays en.key kv).run P w = .ok kv w := by
        rw [← heq]
        have := hsb 9999
        simp [Instr.keyThatStays, this]
      refine ⟨es.modify e1.length fun e => { e with key := kv, val := xv }, ck, l1 ++ (k, x) :: l3, ?_, ?_, ?_⟩
      · simp only [Instr.mapUpdate, Sem.run_bind, run_underlying hu, Result.andThen_ok, MapKept.run_getObj_map hob, hck, hR, hget, Option.map_some, Option.getD_some, hst]
        exact MapKept.run_setObj_map _ hob
      · obtain ⟨m1, z, m2, rfl, g2, g3, g4⟩ := findE_some hf
        rw [repE_some g3 g4]
        have hzy : y = z := by
          have hy : y ∈ m1 ++ z :: m2 := hp.mem_iff.1 (by rw [h1]; simp)
          rcases List.mem_append.1 hy with hy | hy
          · have := g4 y (by simp [hy]); rw [h6] at this; cases this
          · cases hy with
            | head => rfl
            | tail _ hy => have hy : y ∈ m2 := hy; have := g4 y (by simp [hy]); rw [h6] at this; cases this
        subst hzy
        rw [h1] at hp
        have h7 : (l1 ++ l3).Perm (m1 ++ m2) := ((List.perm_middle.symm.trans hp).trans List.perm_middle).cons_inv
        exact (List.perm_middle.trans (h7.cons _)).trans List.perm_middle.symm
      · rw [h1, h2] at hel
        obtain ⟨hel1, hel2⟩ := EL.split h3 hel
        have hm : (es.modify e1.length fun e => { e with key := kv, val := xv }).toList = e1 ++ { en with key := kv, val := xv } :: e2 := by
          rw [Array.toList_modify, h2]
          exact modify_mid _ en e1 e2
        rw [hm]
        cases hel2 with | cons hk' hv' t => exact hel1.append (.cons hk hx t)
theorem d_upd (hr : R L Γ h nx w) {t kt e : TypeId} {mo k x : Operand} (ho : o.op = .mapUpdate t mo k x ∨ o.op = .insert t mo k x) (hu : P.underlying t = some (.map kt e)) {m : Nat} {ek : EK} (hq : eqN P kt = some (m, ek))
    (hv : VL Γ vs [ρ mo, ρ k, ρ x]) (hx : doUpd m ek vs h nx = .ok v h' nx') : Done L Γ h nx w v h' nx' ((execOp ρ o).run P w) := by
  unfold doUpd at hx
  split at hx
  · rename_i b ak ax
    obtain ⟨_, _, _, e', g1, g2, g3⟩ := hv.inv3
    simp only [List.cons.injEq, and_true] at e'
    obtain ⟨e1, e2, e3⟩ := e'
    rw [← e1] at g1; rw [← e2] at g2; rw [← e3] at g3
    cases hko : keyOk m ak with
    | false => simp [hko] at hx
    | true =>
      simp only [hko, cond_true] at hx
      split at hx
      · rename_i l hb
        split at hx
        · rename_i l2 hs
          cases hx
          generalize hxm : ρ mo = xm at g1
          cases g1 with | m _ ex he =>
          obtain ⟨es, ck, l', hob, hp, hel⟩ := hr.map he hb
          obtain ⟨es2, ck2, l2', hrun, hp2, hel2⟩ := upd_run (P := P) hu hq g2 g3 hko hs hp hel hob
          have hset := MapKept.heap_set (o' := .map es2 ck2) hob
          refine Done.unit (w' := { w with heap := w.heap.setIfInBounds ex.rb (.map es2 ck2) }) ?_ (hr.write he ⟨_, hb, by simp⟩ (.map l2) (.map es2 ck2) (by simp) (.map l2 es2 ck2 ⟨l2', hp2, hel2⟩) hset.1 hset.2 (by simp) rfl rfl rfl)
          have hex : execOp ρ o = (do Instr.mapUpdate t (ρ mo) (ρ k) (ρ x); pure Next.skip) := by rcases ho with ho | ho <;> simp only [execOp, ho]
          rw [hex, hxm, Sem.run_bind, hrun]; simp
        · cases hx
      · cases hx
  · cases hx
end
end Go.AR
namespace Go.AR
section
variable {L : LoopOk} {Γ : G} {h h' : Tr Blk} {nx nx' : Pos} {w : World} {v : AV} {P : Program} {o : Oper} {ρ : Operand → Value} {vs : List AV}
theorem d_lenA (hr : R L Γ h nx w) {x : Operand} {args : Array Operand} {ts : Array TypeId} (ho : o.op = .call { callee := .builtin .len, args := args, argTypes := ts }) {t e : TypeId} {m : Nat} (ht : ts[0]? = some t) (ha : args.toList = [x])
    (hu : P.underlying t = some (.array m e)) : Done L Γ h nx w (.i .i64 (.ofNat m)) h nx ((execOp ρ o).run P w) := by
  have hargs : args = #[x] := by rw [← Array.toArray_toList (xs := args), ha]
  subst hargs
  have hn : (Builtin.len_ ts o.type #[ρ x]).run P w = .ok (goInt m) w := by simp [Builtin.len_, ht, run_underlying hu]
  simp only [execOp, ho, resolve, pure_bind, invoke, builtin]
  simp only [List.map_toArray, List.map_cons, List.map_nil]
  rw [runv hn]
  exact Done.same hr (.i _ _)
def isCallC : OC → Bool | .call _ => true | .callv => true | _ => false
theorem op_done (hL : LMono L) (hr : R L Γ h nx w) {n : Nat} {c : OC} {xs : List Operand} (hc : compO P n o.op = some (c, xs)) (hnc : isCallC c = false) (hv : VL Γ vs (xs.map ρ))
    {cl : AV → List AV → Tr Blk → Pos → Res} (hx : exV cl c vs h nx = .ok v h' nx') : Done L Γ h nx w v h' nx' ((execOp ρ o).run P w) := by
  cases hop : o.op with
  | move x => rw [hop] at hc; cases hc; exact d_mv hr (.inl hop) hv hx
  | assign x => rw [hop] at hc; cases hc; exact d_mv hr (.inr hop) hv hx
  | pick a b d => rw [hop] at hc; cases hc; exact d_pick hr hop hv hx
  | alloc t =>
    rw [hop] at hc; simp only [compO, Option.map_eq_some_iff] at hc
    obtain ⟨z, hz, hc⟩ := hc; cases hc
    exact d_alloc hL hr hop hz hv hx
  | box t x => rw [hop] at hc; cases hc; exact d_box hL hr hop hv hx
  | build t ps =>
    rw [hop] at hc; simp only [compO] at hc
    split at hc
    · rename_i fs z h1 h2
      split at hc
      · rename_i pl h3
        simp only [Option.map_eq_some_iff] at hc
        obtain ⟨⟨os, ys⟩, h4, hc⟩ := hc; cases hc
        exact d_build hr hop h2 (.inl ⟨fs, h1, h3⟩) h4 hv hx
      · cases hc
    · rename_i m e z h1 h2
      split at hc
      · rename_i s h3
        simp only [Option.map_eq_some_iff] at hc
        obtain ⟨⟨os, ys⟩, h4, hc⟩ := hc; cases hc
        exact d_build hr hop h2 (.inr ⟨m, e, s, h1, h3, rfl⟩) h4 hv hx
      · cases hc
    · cases hc
  | buildSlice t m ps =>
    rw [hop] at hc; simp only [compO] at hc
    split at hc
    · rename_i e h1
      split at hc
      · rename_i z s h2 h3
        split at hc
        · rename_i h4
          simp only [Option.map_eq_some_iff] at hc
          obtain ⟨⟨os, ys⟩, h5, hc⟩ := hc; cases hc
          exact d_bslice hL hr hop h1 h2 h3 h4.1 h4.2.1 h4.2.2 h5 hv hx
        · cases hc
      · cases hc
    · cases hc
  | load t x =>
    rw [hop] at hc; simp only [compO] at hc
    split at hc
    · rename_i a s h1 h2; cases hc; exact d_load hr hop h1 h2 hv hx
    · cases hc
  | store t a x =>
    rw [hop] at hc; simp only [compO, Option.map_eq_some_iff] at hc
    obtain ⟨z, hz, hc⟩ := hc; cases hc
    exact d_store hr hop hz hv hx
  | nilCheck x => rw [hop] at hc; cases hc; exact d_nilchk hr hop hv hx
  | binOp op t x y t' =>
    rw [hop] at hc; simp only [compO] at hc
    split at hc
    · rename_i b m h1 h2; cases hc; exact d_bin hr hop h1 h2 hv hx
    · cases hc
  | unOp op t x =>
    cases op with
    | not => rw [hop] at hc; cases hc; exact d_not hr hop hv hx
    | neg => rw [hop] at hc; cases hc; exact d_neg hr hop hv hx
    | xor => rw [hop] at hc; cases hc; exact d_com hr hop hv hx
    | _ => rw [hop] at hc; cases hc
  | convert s d x =>
    rw [hop] at hc; simp only [compO] at hc
    split at hc
    · rename_i k' k h1 h2; cases hc; exact d_conv hr hop h1 h2 hv hx
    · cases hc
  | fieldAddr t x f =>
    rw [hop] at hc; simp only [compO] at hc
    split at hc
    · rename_i fs h1
      split at hc
      · rename_i fd h2
        split at hc
        · rename_i s h3; cases hc; exact d_faddr hr hop h1 h2 h3 hv hx
        · cases hc
      · cases hc
    · cases hc
  | field t x f =>
    rw [hop] at hc; simp only [compO] at hc
    split at hc
    · rename_i fs h1
      split at hc
      · rename_i fd h2
        split at hc
        · rename_i a s h3 h4; cases hc; exact d_fld hr hop h1 h2 h3 h4 hv hx
        · cases hc
      · cases hc
    · cases hc
  | indexAddr t x i =>
    rw [hop] at hc; simp only [compO] at hc
    split at hc
    · rename_i m e h1
      simp only [Option.map_eq_some_iff] at hc
      obtain ⟨s, h2, hc⟩ := hc; cases hc
      exact d_iaddrA hr hop h1 h2 hv hx
    · rename_i e h1
      simp only [Option.map_eq_some_iff] at hc
      obtain ⟨s, h2, hc⟩ := hc; cases hc
      exact d_iaddrS hr hop h1 h2 hv hx
    · cases hc
  | index t x i =>
    rw [hop] at hc; simp only [compO] at hc
    split at hc
    · rename_i m e h1
      split at hc
      · rename_i a s h2 h3; cases hc; exact d_idxA hr hop h1 h2 h3 hv hx
      · cases hc
    · rename_i h1; cases hc; exact d_idxT hr hop h1 hv hx
    · cases hc
  | extract x i => rw [hop] at hc; cases hc; exact d_ext hr hop hv hx
  | makeFunc f first cap =>
    rw [hop] at hc
    cases f with
    | func f =>
      simp only [compO] at hc
      split at hc
      · rename_i h1; cases hc; cases hx; exact d_mkfn hr hop h1 hv
      · cases hc
    | _ => simp [compO] at hc
  | makeSlice t x y =>
    rw [hop] at hc; simp only [compO] at hc
    split at hc
    · rename_i e h1
      split at hc
      · rename_i z s i h2 h3 h4
        split at hc
        · rename_i h5; cases hc; exact d_mkslice hL hr hop h1 h2 h3 h4 h5.1 h5.2.1 h5.2.2 hv hx
        · cases hc
      · cases hc
    · cases hc
  | slice t x lo hi mx =>
    rw [hop] at hc; simp only [compO] at hc
    split at hc
    · rename_i e h1
      simp only [Option.map_eq_some_iff] at hc
      obtain ⟨s, h2, hc⟩ := hc; cases hc
      exact d_slS hr hop h1 h2 hv hx
    · rename_i m e h1
      simp only [Option.map_eq_some_iff] at hc
      obtain ⟨s, h2, hc⟩ := hc; cases hc
      exact d_slA hr hop h1 h2 hv hx
    · rename_i h1
      split at hc
      · rename_i h2; cases hc; exact d_slT hr hop h1 h2 hv hx
      · cases hc
    · cases hc
  | makeMap t r =>
    rw [hop] at hc
    cases r with
    | some r => simp [compO] at hc
    | none =>
      simp only [compO] at hc
      split at hc
      · cases hc; exact d_mkmap hL hr hop hv hx
      · cases hc
  | lookup t x k ok =>
    rw [hop] at hc; simp only [compO] at hc
    split at hc
    · rename_i kt e h1
      split at hc
      · rename_i z q h2 h3; cases hc; exact d_look hr hop h1 h2 h3 hv hx
      · cases hc
    · cases hc
  | mapUpdate t mo k x =>
    rw [hop] at hc; simp only [compO] at hc
    split at hc
    · rename_i kt e h1
      simp only [Option.map_eq_some_iff] at hc
      obtain ⟨q, h2, hc⟩ := hc; cases hc
      exact d_upd hr (.inl hop) h1 h2 hv hx
    · cases hc
  | insert t mo k x =>
    rw [hop] at hc; simp only [compO] at hc
    split at hc
    · rename_i kt e h1
      simp only [Option.map_eq_some_iff] at hc
      obtain ⟨q, h2, hc⟩ := hc; cases hc
      exact d_upd hr (.inr hop) h1 h2 hv hx
    · cases hc
  | call cc =>
    rw [hop] at hc
    obtain ⟨callee, args, argTypes⟩ := cc
    cases callee with
    | value f =>
      cases f with
      | tmp t => simp only [compO] at hc; cases hc; cases hnc
      | func f => simp only [compO] at hc; cases hc; cases hnc
      | _ => simp [compO] at hc
    | builtin b =>
      cases b with
      | len =>
        simp only [compO] at hc
        split at hc
        · rename_i t x h1 h2
          split at hc
          · rename_i m e h3; cases hc; cases hv; cases hx; exact d_lenA hr hop h1 h2 h3
          · rename_i h3; cases hc; exact d_len hr hop h1 h2 (.inr (.inl ⟨rfl, h3⟩)) hv hx
          · rename_i e h3; cases hc; exact d_len hr hop h1 h2 (.inl ⟨e, rfl, h3⟩) hv hx
          · rename_i a b h3; cases hc; exact d_len hr hop h1 h2 (.inr (.inr ⟨a, b, rfl, h3⟩)) hv hx
          · cases hc
        · cases hc
      | append =>
        simp only [compO] at hc
        split at hc
        · rename_i t t' x y h1 h2 h3
          split at hc
          · rename_i e h4
            split at hc
            · rename_i s i z h5 h6 h7
              split at hc
              · rename_i h8; cases hc
                obtain ⟨g1, g2, g3, g4, g5⟩ := h8
                subst g4
                have hts : argTypes = #[t', t'] := by
                  apply Array.ext (by simpa using g5)
                  intro i hi1 hi2
                  have : i = 0 ∨ i = 1 := by simp at hi2; omega
                  rcases this with rfl | rfl
                  · rw [Array.getElem?_eq_getElem hi1] at h1; simpa using h1
                  · rw [Array.getElem?_eq_getElem hi1] at h2; simpa using h2
                exact d_app hL hr hop hts (by rw [← Array.toArray_toList (xs := args), h3]) h4 h5 h6 h7 g1 g2 g3 hv hx
              · cases hc
            · cases hc
          · cases hc
        · cases hc
      | min => simp only [compO] at hc; cases hc; exact d_mn hr hop hv hx
      | max => simp only [compO] at hc; cases hc; exact d_mx hr hop hv hx
      | _ => simp [compO] at hc
    | _ => simp [compO] at hc
  | _ => rw [hop] at hc; simp [compO] at hc
end
end Go.AR
namespace Go.AR
def Ups (F : Fence) (m : Nat) (P : Program) (K : Value → World → Prop) : Result Next → Prop
  | .ok (.value v) w' => K v w'
  | .ok .skip w' => K undef w'
  | .ok (.enter f args) w' => CallsIn F (m - 1) P f args w' fun e w'' => ∃ v, e = .returned v ∧ K v w''
  | .ok (.round l f tmps assign body) w' => RoundIn F (m - 1) P l f tmps assign body w' fun e w'' => ∃ v, e = .returned v ∧ K v w''
  | _ => False
structure Wide (F : Fence) : Prop where
  fn : ∀ f, F.fn f
  depth : F.depth = none
  eq : F = { Fence.wide with round := F.round }
def Upto (L : LoopOk) (Γ : G) (h : Tr Blk) (nx : Pos) (w : World) (v : AV) (h' : Tr Blk) (nx' : Pos) (v' : Value) (w' : World) : Prop := ∃ Γ', St L Γ h nx w Γ' h' nx' w' ∧ V Γ' v v'
def CallOk (F : Fence) (m : Nat) (P : Program) (L : LoopOk) (cl : AV → List AV → Tr Blk → Pos → Res) : Prop :=
  ∀ (Γ : G) (h : Tr Blk) (nx : Pos) (w : World) (f : AV) (fv : Value) (vs : List AV) (args : Array Value) (v : AV) (h' : Tr Blk) (nx' : Pos),
    R L Γ h nx w → V Γ f fv → VL Γ vs args.toList → cl f vs h nx = .ok v h' nx' →
    Ups F m P (Upto L Γ h nx w v h' nx') ((do let d ← Deferred.ofValue fv args; invoke d.target d.args : Sem Next).run P w)
section
variable {L : LoopOk} {Γ : G} {h h' : Tr Blk} {nx nx' : Pos} {w : World} {v : AV} {P : Program} {o : Oper} {vs : List AV} {F : Fence} {m n : Nat} {T : Tr AV} {a : Act}
theorem Done.ups {r : Result Next} (hd : Done L Γ h nx w v h' nx' r) : Ups F m P (Upto L Γ h nx w v h' nx') r := by
  obtain ⟨Γ', w', v', h1, h2, h3⟩ := hd
  rcases h1 with rfl | ⟨rfl, rfl⟩
  · exact ⟨Γ', h2, h3⟩
  · exact ⟨Γ', h2, h3⟩
def TRon (Γ : G) (n : Nat) (T : Tr AV) (tmps : Array Value) (on : Pos → Prop) : Prop := ∀ t v, t < n → on (pos t) → T.get (pos t) = some v → ∃ y, tmps[t]? = some y ∧ V Γ v y
theorem TRon.mono {Γ' : G} (hl : Γ.le Γ') {tmps : Array Value} {on : Pos → Prop} (h : TRon Γ n T tmps on) : TRon Γ' n T tmps on :=
  fun t v ht ho hv => let ⟨y, h1, h2⟩ := h t v ht ho hv; ⟨y, h1, h2.mono hl⟩
theorem compX_eval {x : Operand} {X' : X} (hc : compX n x = some X') {v : AV} (hv : ev T X' = some v) (ht : TRon Γ n T a.tmps fun p => X' = .t p) : V Γ v (a.eval x) := by
  cases x with
  | tmp t =>
    simp only [compX] at hc
    split at hc
    · rename_i hlt
      cases hc
      obtain ⟨y, h1, h2⟩ := ht t v hlt rfl hv
      show V Γ v (a.tmps.getD t undef)
      rw [Array.getD_eq_getD_getElem?, h1]; exact h2
    · cases hc
  | const c =>
    simp only [compX, Option.map_eq_some_iff] at hc
    obtain ⟨z, hz, rfl⟩ := hc
    cases hv
    exact compV_V hz
  | func f => cases hc; cases hv; exact .f f [] #[] .nil
  | global g => cases hc
theorem evs_eval : ∀ {xs : List Operand} {asx : List X} (hc : allO (compX n) xs = some asx) {vs : List AV} (hv : evs T asx = some vs) (ht : TRon Γ n T a.tmps fun p => X.t p ∈ asx), VL Γ vs (xs.map a.eval)
  | [], asx, hc, vs, hv, ht => by cases hc; cases hv; exact .nil
  | x :: xs, asx, hc, vs, hv, ht => by
    unfold allO at hc
    split at hc
    · rename_i y r h1 h2
      cases hc
      have hv : (Option.casesOn (ev T y) none (fun v => Option.casesOn (evs T r) none (fun q => some (v :: q))) : Option (List AV)) = some vs := hv
      cases he : ev T y with
      | none => rw [he] at hv; cases hv
      | some u =>
        cases hr : evs T r with
        | none => rw [he, hr] at hv; cases hv
        | some q =>
          rw [he, hr] at hv; cases hv
          exact .cons (compX_eval h1 he fun t v hlt ho => ht t v hlt (by rw [ho]; simp)) (evs_eval h2 hr fun t v hlt ho => ht t v hlt (by simp [ho]))
    · cases hc
def reads (o : Op) (p : Pos) : Prop := X.t p ∈ o.asx ∨ ∃ b, o.g = some (p, b)
theorem compOper_inv {ops : Array Oper} {ao : Op} (hc : compOper P n ops o = some ao) : ∃ xs, compO P n o.op = some (ao.c, xs) ∧ compD n o.dst = some ao.d ∧ compG n ops o.guard = some ao.g ∧ allO (compX n) xs = some ao.asx := by
  unfold compOper at hc
  split at hc
  · rename_i c xs d g h1 h2 h3
    split at hc
    · rename_i asx h4; cases hc; exact ⟨xs, h1, h2, h3, h4⟩
    · cases hc
  · cases hc
theorem want_run {ops : Array Oper} {g : Option (Pos × Bool)} (hg : compG n ops o.guard = some g) {q : Bool} (hw : wantG T g = some q) (ht : TRon Γ n T a.tmps fun p => ∃ b, g = some (p, b)) : Region.wanted o (yielded ops a.tmps) = q := by
  unfold Region.wanted
  cases hgu : o.guard with
  | none => rw [hgu] at hg; cases hg; cases hw; rfl
  | some jw =>
    obtain ⟨j, want⟩ := jw
    rw [hgu] at hg
    simp only [compG] at hg
    cases hd : (ops[j]?).bind (·.dst) with
    | none => simp [hd] at hg
    | some t =>
      simp only [hd] at hg
      split at hg
      · rename_i hlt
        cases hg
        simp only [wantG] at hw
        cases hT : T.get (pos t) with
        | none => simp [hT] at hw
        | some u =>
          obtain ⟨y, h1, h2⟩ := ht t u hlt ⟨want, rfl⟩ hT
          have hy : yielded ops a.tmps j = match y with | .bool b => some b | _ => none := by unfold yielded; rw [hd]; simp only [Option.bind_some, h1]; cases y <;> rfl
          show (yielded ops a.tmps j == some want) = q
          rw [hy]
          cases u <;> simp only [hT, reduceCtorEq, Option.some.injEq] at hw
          case b x => cases h2; subst hw; cases x <;> cases want <;> rfl
          case u => cases h2; subst hw; rfl
      · cases hg
theorem compO_call {op : Go.Op} {c : OC} {xs : List Operand} (h : compO P n op = some (c, xs)) (hc : isCallC c = true) :
    (∃ args ts g, op = .call { callee := .value (.func g), args := args, argTypes := ts } ∧ c = .call (pos g) ∧ xs = args.toList) ∨
    (∃ args ts t, op = .call { callee := .value (.tmp t), args := args, argTypes := ts } ∧ c = .callv ∧ xs = .tmp t :: args.toList) := by
  unfold compO at h
  split at h
  all_goals first
    | (simp only [Option.some.injEq, Prod.mk.injEq] at h; obtain ⟨rfl, rfl⟩ := h; first | exact .inl ⟨_, _, _, rfl, rfl, rfl⟩ | exact .inr ⟨_, _, _, rfl, rfl, rfl⟩ | (cases hc; done))
    | (repeat' split at h) <;> first | (cases h; done) | (simp only [Option.map_eq_some_iff, Option.some.injEq, Prod.mk.injEq] at h; obtain ⟨_, _, rfl, rfl⟩ := h; cases hc; done) | (simp only [Option.some.injEq, Prod.mk.injEq] at h; obtain ⟨rfl, rfl⟩ := h; cases hc; done) | skip
theorem op_step {ops : Array Oper} {i : Nat} (hi : ops[i]? = some o) {ao : Op} (hc : compOper P n ops o = some ao) (hF : Wide F) (hL : LMono L) {cl : AV → List AV → Tr Blk → Pos → Res} (hcl : CallOk F m P L cl) (hr : R L Γ h nx w)
    (ht : TRon Γ n T a.tmps (reads ao)) (hx : exOp cl ao T h nx = .ok v h' nx') {Q : Exit → Act → World → Prop} {K : Act → World → Prop}
    (hK : ∀ Γ' v' w', St L Γ h nx w Γ' h' nx' w' → V Γ' v v' → K (a.put o.dst v') w') : wpOpIn F m P ops Q i K a w := by
  obtain ⟨xs, h1, h2, h3, h4⟩ := compOper_inv hc
  unfold wpOpIn
  simp only [hi]
  unfold exOp at hx
  cases hw : wantG T ao.g with
  | none => simp [hw] at hx
  | some q =>
    have hq := want_run (o := o) h3 hw (fun t v hlt ho => ht t v hlt (.inr ho))
    rw [hq]
    cases q with
    | false =>
      simp only [hw] at hx; cases hx
      simp only [Bool.false_eq_true, if_false]
      exact ⟨fun f _ => hF.fn f, hK Γ undef w (St.refl hr) .u⟩
    | true =>
      simp only [hw] at hx
      simp only [if_true]
      cases he : evs T ao.asx with
      | none => simp [he] at hx
      | some vs =>
        simp only [he] at hx
        have hv : VL Γ vs (xs.map a.eval) := evs_eval h4 he fun t v hlt ho => ht t v hlt (.inl ho)
        have hnd : ∀ c, o.op ≠ .defer c := fun c e => by rw [e] at h1; simp [compO] at h1
        refine ⟨fun f _ => hF.fn f, ?_⟩
        rw [Oper.semAt_eq F.round a.eval o hnd]
        have fin : ∀ r : Result Next, Ups F m P (Upto L Γ h nx w v h' nx') r → o.uponIn F m P a K Q r := by
          intro r hu
          unfold Ups at hu
          split at hu
          · obtain ⟨Γ', s, hV⟩ := hu; exact hK Γ' _ _ s hV
          · obtain ⟨Γ', s, hV⟩ := hu; exact hK Γ' _ _ s hV
          · refine ⟨fun hd => (by rw [hF.depth] at hd; cases hd), CallsIn.mono hu ?_⟩
            rintro e w'' ⟨v', rfl, Γ', s, hV⟩
            exact hK Γ' _ _ s hV
          · refine ⟨fun hd => (by rw [hF.depth] at hd; cases hd), RoundIn.mono hu ?_⟩
            rintro e w'' ⟨v', rfl, Γ', s, hV⟩
            exact hK Γ' _ _ s hV
          · cases hu
        apply fin
        cases hcc : isCallC ao.c with
        | false => exact (op_done hL hr h1 hcc hv hx).ups
        | true =>
          cases hac : ao.c <;> rw [hac] at hcc <;> simp only [isCallC, Bool.false_eq_true] at hcc
          case call f =>
            rw [hac] at h1 hx
            have hx : cl (.f f []) vs h nx = .ok v h' nx' := hx
            rcases compO_call h1 rfl with ⟨args, ts, g, hop, e1, rfl⟩ | ⟨args, ts, t, hop, e1, rfl⟩
            case inr => cases e1
            cases e1
            have := hcl Γ h nx w (.f (pos g) []) (.func (.func g) #[] #[]) vs (args.map a.eval) v h' nx' hr (.f g [] #[] .nil) (by simpa using hv) hx
            simp only [execOp, hop, resolve]
            exact this
          case callv =>
            rw [hac] at h1 hx
            rcases compO_call h1 rfl with ⟨args, ts, g, hop, e1, rfl⟩ | ⟨args, ts, t, hop, e1, rfl⟩
            case inl => cases e1
            cases vs with
            | nil => cases hx
            | cons f vs =>
              have hx : cl f vs h nx = .ok v h' nx' := hx
              cases hv with | cons hf hv =>
              have := hcl Γ h nx w f (a.eval (.tmp t)) vs (args.map a.eval) v h' nx' hr hf (by simpa using hv) hx
              simp only [execOp, hop, resolve]
              exact this
end
end Go.AR
namespace Go.AR
section
variable {L : LoopOk} {Γ : G} {h h' : Tr Blk} {nx nx' : Pos} {w : World} {v : AV} {P : Program} {F : Fence} {m n : Nat} {T T' : Tr AV} {a : Act}
structure Full (Γ : G) (n : Nat) (T : Tr AV) (a : Act) : Prop where
  size : n ≤ a.tmps.size
  rel : TRon Γ n T a.tmps fun _ => True
theorem TRon.put {on on' : Pos → Prop} {d : Option Tmp} {d' : Option Pos} (hd : compD n d = some d') {v' : Value} (hs : n ≤ a.tmps.size) (ht : TRon Γ n T a.tmps on) (hv : V Γ v v') (hon : ∀ p, on' p → d' ≠ some p → on p) :
    TRon Γ n (setD d' v T) (a.put d v').tmps on' := by
  intro t u hlt ho hu
  cases d with
  | none => cases hd; exact ht t u hlt (hon _ ho (fun e => by cases e)) hu
  | some d =>
    simp only [compD] at hd
    split at hd
    · rename_i hdn
      cases hd
      have hu : (T.set (pos d) v).get (pos t) = some u := hu
      show ∃ y, (a.tmps.setIfInBounds d v')[t]? = some y ∧ V Γ u y
      by_cases hdt : d = t
      · subst hdt
        rw [Tr.get_set_same] at hu; cases hu
        exact ⟨v', by rw [Array.getElem?_setIfInBounds_self_of_lt (by omega)], hv⟩
      · have hne : pos d ≠ pos t := fun e => hdt (pos_inj e)
        rw [Tr.get_set_other _ _ hne] at hu
        obtain ⟨y, h1, h2⟩ := ht t u hlt (hon _ ho (fun e => hne (Option.some.inj e))) hu
        exact ⟨y, by rw [Array.getElem?_setIfInBounds_ne hdt]; exact h1, h2⟩
    · cases hd
theorem put_size (a : Act) (d : Option Tmp) (v' : Value) : (a.put d v').tmps.size = a.tmps.size := by cases d <;> simp [Act.put]
theorem put_defers (a : Act) (d : Option Tmp) (v' : Value) : (a.put d v').defers = a.defers := by cases d <;> rfl
theorem Full.put {d : Option Tmp} {d' : Option Pos} (hd : compD n d = some d') {v' : Value} (ht : Full Γ n T a) (hv : V Γ v v') : Full Γ n (setD d' v T) (a.put d v') :=
  ⟨by rw [put_size]; exact ht.size, ht.rel.put hd ht.size hv fun _ _ _ => trivial⟩
theorem Full.mono {Γ' : G} (hl : Γ.le Γ') (h : Full Γ n T a) : Full Γ' n T a := ⟨h.size, h.rel.mono hl⟩
theorem exOps_cons {cl : AV → List AV → Tr Blk → Pos → Res} {o : Op} {l : List Op} {e : Ex} (hx : exOps cl (o :: l) T h nx = .ok e T' h' nx') :
    ∃ v h1 nx1, exOp cl o T h nx = .ok v h1 nx1 ∧ exOps cl l (setD o.d v T) h1 nx1 = .ok e T' h' nx' := by
  have hx : (Res.casesOn (exOp cl o T h nx) .bad (fun v h nx => exOps cl l (setD o.d v T) h nx) : SR) = .ok e T' h' nx' := hx
  cases hr : exOp cl o T h nx with
  | bad => rw [hr] at hx; cases hx
  | ok v h1 nx1 => rw [hr] at hx; exact ⟨v, h1, nx1, rfl, hx⟩
theorem allO_get {α β : Type} {f : α → Option β} : ∀ {l : List α} {r : List β}, allO f l = some r → ∀ (k : Nat) (x : α), l[k]? = some x → ∃ y, r[k]? = some y ∧ f x = some y
  | [], _, _, k, x, hx => by simp at hx
  | a :: l, r, h, k, x, hx => by
    unfold allO at h
    split at h
    · rename_i y q h1 h2
      cases h
      cases k with
      | zero => simp at hx; subst hx; exact ⟨y, rfl, h1⟩
      | succ k => simp at hx; simpa using allO_get h2 k x hx
    · cases h
theorem allO_length {α β : Type} {f : α → Option β} : ∀ {l : List α} {r : List β}, allO f l = some r → r.length = l.length
  | [], _, h => by cases h; rfl
  | a :: l, r, h => by
    unfold allO at h
    split at h
    · rename_i y q h1 h2; cases h; simp [allO_length h2]
    · cases h
noncomputable def compOps (P : Program) (n : Nat) (ops : Array Oper) : Option (List Op) := allO (compOper P n ops) ops.toList
theorem ops_sound {ops : Array Oper} {cs : List Op} (hc : compOps P n ops = some cs) (hF : Wide F) (hL : LMono L) {cl : AV → List AV → Tr Blk → Pos → Res} (hcl : CallOk F m P L cl) {Q : Exit → Act → World → Prop} {e : Ex} :
    ∀ (j k : Nat) (Γ : G) (T : Tr AV) (h : Tr Blk) (nx : Pos) (a : Act) (w : World), k + j = ops.size → R L Γ h nx w → Full Γ n T a → exOps cl (cs.drop k) T h nx = .ok e T' h' nx' →
      (∀ Γ' a' w', St L Γ h nx w Γ' h' nx' w' → Full Γ' n T' a' → a'.tmps.size = a.tmps.size → a'.defers = a.defers → Q .normal a' w') → wpOpsIn F m P ops Q (List.range' k j) a w := by
  have hlen : cs.length = ops.size := by rw [allO_length hc, Array.length_toList]
  intro j
  induction j with
  | zero =>
    intro k Γ T h nx a w hk hr ht hx hQ
    rw [List.drop_eq_nil_of_le (by omega)] at hx
    cases hx
    exact hQ Γ a w (St.refl hr) ht rfl rfl
  | succ j ih =>
    intro k Γ T h nx a w hk hr ht hx hQ
    have hkl : k < ops.size := by omega
    have hi : ops[k]? = some ops[k] := Array.getElem?_eq_getElem hkl
    obtain ⟨ao, hao, hco⟩ := allO_get hc k ops[k] (by rw [Array.getElem?_toList]; exact hi)
    have hdrop : cs.drop k = ao :: cs.drop (k + 1) := by
      have hkc : k < cs.length := by omega
      rw [List.drop_eq_getElem_cons hkc]
      rw [List.getElem?_eq_getElem hkc] at hao
      rw [Option.some.inj hao]
    rw [hdrop] at hx
    obtain ⟨v, h1, nx1, hx1, hx2⟩ := exOps_cons hx
    rw [List.range'_succ, wpOpsIn_cons]
    obtain ⟨_, _, hd, _, _⟩ := compOper_inv hco
    refine op_step hi hco hF hL hcl hr (fun t v hlt _ hv => ht.rel t v hlt trivial hv) hx1 fun Γ1 v' w1 s1 hV => ?_
    refine ih (k + 1) Γ1 _ _ _ _ w1 (by omega) s1.rel ((ht.mono s1.le).put hd hV) hx2 fun Γ' a' w' s' ht' hs' hd' => ?_
    exact hQ Γ' a' w' (St.trans hr s1 s') ht' (by rw [hs', put_size]) (by rw [hd', put_defers])
theorem exOps_normal {cl : AV → List AV → Tr Blk → Pos → Res} : ∀ {l : List Op} {T : Tr AV} {h : Tr Blk} {nx : Pos} {e : Ex}, exOps cl l T h nx = .ok e T' h' nx' → e = .n
  | [], T, h, nx, e, hx => by cases hx; rfl
  | o :: l, T, h, nx, e, hx => by obtain ⟨_, _, _, _, hx⟩ := exOps_cons hx; exact exOps_normal hx
theorem reg_sound {id : Nat} {ops : Array Oper} {cs : List Op} (hc : compOps P n ops = some cs) (hF : Wide F) (hL : LMono L) {cl : AV → List AV → Tr Blk → Pos → Res} (hcl : CallOk F m P L cl) {Q : Exit → Act → World → Prop} {e : Ex}
    (hr : R L Γ h nx w) (ht : Full Γ n T a) (hx : exOps cl cs T h nx = .ok e T' h' nx')
    (hQ : ∀ Γ' a' w', St L Γ h nx w Γ' h' nx' w' → Full Γ' n T' a' → a'.tmps.size = a.tmps.size → a'.defers = a.defers → Q .normal a' w') : (Code.region id ops false).wpIn F m P Q a w :=
  wpIn_region (by rw [List.range_eq_range']; exact ops_sound hc hF hL hcl ops.size 0 Γ T h nx a w (by simp) hr ht hx hQ)
end
end Go.AR
namespace Go.AR
def stillC : OC → Bool
  | .mv | .pick | .bin _ _ _ | .not | .neg | .com | .conv _ | .load _ _ | .build _ _ | .faddr _ | .fld _ _ _ | .iaddrA _ _ | .iaddrS _ | .idxA _ _ _ | .idxT | .nilchk | .ext _ | .len _ | .lenA _ | .slS _ _ | .slA _ _ _ | .slT _ | .mkfn _ | .look _ _ _ _ | .mn | .mx => true
  | _ => false
def readC : OC → Bool
  | .load _ _ | .len _ | .slS _ _ | .look _ _ _ _ => true
  | _ => false
def newC : OC → Bool
  | .alloc _ | .box | .bslice _ _ _ | .mkslice _ | .mkmap | .mapl _ _ => true
  | _ => false
noncomputable def newOf (c : OC) (vs : List AV) (b : Pos) : Option (AV × Blk) :=
  match c with
  | .alloc z => (match vs with | [] => some (.p b 0, .cells z 0) | _ => none)
  | .box => (match vs with | [v] => some (.p b 0, .cells (cellsOf v) 0) | _ => none)
  | .bslice z n os => (match fillL vs os z with | some l => some (.sl b 0 n n, .cells l 0) | none => none)
  | .mkslice z => (match vs with | [.i _ (.ofNat n), .i _ (.ofNat c)] => bif Nat.ble n c then bif Nat.ble c 16777216 then some (.sl b 0 n c, .cells (rep c z) 0) else none else none | _ => none)
  | .mkmap => (match vs with | [] => some (.m b, .map []) | _ => none)
  | .mapl m e => (match pairs vs with | some l => bif apartL m e l then some (.m b, .map l) else none | none => none)
  | _ => none
section
variable {L : LoopOk} {Γ : G} {h h' : Tr Blk} {nx nx' : Pos} {w : World} {v : AV} {P : Program} {o : Oper} {ρ : Operand → Value} {vs : List AV} {n : Nat}
theorem newOf_exV {cl : AV → List AV → Tr Blk → Pos → Res} {c : OC} (hc : newC c = true) (hx : exV cl c vs h nx = .ok v h' nx') : ∃ B, newOf c vs nx = some (v, B) ∧ h' = h.set nx B ∧ nx' = nx.succ := by
  cases c <;> simp only [newC, Bool.false_eq_true] at hc
  case alloc z => have hx : doAlloc z vs h nx = .ok v h' nx' := hx; unfold doAlloc at hx; split at hx <;> cases hx; exact ⟨_, rfl, rfl, rfl⟩
  case box => have hx : doBox vs h nx = .ok v h' nx' := hx; unfold doBox at hx; split at hx <;> cases hx; exact ⟨_, rfl, rfl, rfl⟩
  case bslice z n os =>
    have hx : doBslice z n os vs h nx = .ok v h' nx' := hx; unfold doBslice at hx
    split at hx
    · rename_i l hl; cases hx; exact ⟨.cells l 0, by simp [newOf, hl], rfl, rfl⟩
    · cases hx
  case mkslice z =>
    have hx : doMkslice z vs h nx = .ok v h' nx' := hx; unfold doMkslice at hx
    split at hx
    · rename_i k n k' c _
      cases h1 : Nat.ble n c with
      | false => simp [h1] at hx
      | true =>
        cases h2 : Nat.ble c 16777216 with
        | false => simp [h1, h2] at hx
        | true => simp only [h1, h2, cond_true] at hx; cases hx; exact ⟨.cells (rep c z) 0, by simp [newOf, h1, h2], rfl, rfl⟩
    · cases hx
  case mkmap => have hx : doMkmap vs h nx = .ok v h' nx' := hx; unfold doMkmap at hx; split at hx <;> cases hx; exact ⟨_, rfl, rfl, rfl⟩
  case mapl m e =>
    have hx : doMapl m e vs h nx = .ok v h' nx' := hx; unfold doMapl at hx
    split at hx
    · rename_i l hl
      cases h1 : apartL m e l with
      | false => simp [h1] at hx
      | true => simp only [h1, cond_true] at hx; cases hx; exact ⟨.map l, by simp [newOf, hl, h1], rfl, rfl⟩
    · cases hx
theorem still_exV {cl : AV → List AV → Tr Blk → Pos → Res} {c : OC} (hc : stillC c = true) (hx : exV cl c vs h nx = .ok v h' nx') : h' = h ∧ nx' = nx := by
  have ok : ∀ {x : Option AV}, okv x h nx = .ok v h' nx' → h' = h ∧ nx' = nx := fun hx => (okv_inv hx).2
  cases c <;> simp only [stillC, Bool.false_eq_true] at hc <;> simp only [exV] at hx
  case mv => unfold doMv at hx; split at hx <;> cases hx; exact ⟨rfl, rfl⟩
  case pick => unfold doPick at hx; split at hx <;> cases hx; exact ⟨rfl, rfl⟩
  case bin => unfold doBin at hx; split at hx; exact ok hx; cases hx
  case not => unfold doNot at hx; split at hx <;> cases hx; exact ⟨rfl, rfl⟩
  case neg => unfold doNeg at hx; split at hx <;> cases hx; exact ⟨rfl, rfl⟩
  case com => unfold doCom at hx; split at hx <;> cases hx; exact ⟨rfl, rfl⟩
  case conv => unfold doConv at hx; split at hx <;> cases hx; exact ⟨rfl, rfl⟩
  case load => unfold doLoad at hx; split at hx; (split at hx; exact ok hx; cases hx); exact ok hx; cases hx
  case build => unfold doBuild at hx; split at hx <;> cases hx; exact ⟨rfl, rfl⟩
  case faddr => unfold doFaddr at hx; split at hx; (cases hx; exact ⟨rfl, rfl⟩); exact (zpR_inv hx).2.2; cases hx
  case fld => unfold doFld at hx; split at hx; exact ok hx; cases hx
  case iaddrA => unfold doIaddrA at hx; split at hx; (rw [Bool.cond_eq_ite] at hx; split at hx <;> cases hx; exact ⟨rfl, rfl⟩); (rw [Bool.cond_eq_ite] at hx; split at hx; exact (zpR_inv hx).2.2; cases hx); cases hx
  case iaddrS => unfold doIaddrS at hx; split at hx; (rw [Bool.cond_eq_ite] at hx; split at hx <;> cases hx; exact ⟨rfl, rfl⟩); (rw [Bool.cond_eq_ite] at hx; split at hx; exact (zpR_inv hx).2.2; cases hx); cases hx
  case idxA => unfold doIdxA at hx; split at hx; (rw [Bool.cond_eq_ite] at hx; split at hx; exact ok hx; cases hx); cases hx
  case idxT => unfold doIdxT at hx; split at hx; (split at hx <;> cases hx; exact ⟨rfl, rfl⟩); cases hx
  case nilchk => unfold doNilchk at hx; split at hx <;> cases hx <;> exact ⟨rfl, rfl⟩
  case ext => unfold doExt at hx; split at hx; exact ok hx; cases hx
  case len => unfold doLen at hx; split at hx <;> first | (cases hx; done) | (cases hx; exact ⟨rfl, rfl⟩) | (split at hx <;> cases hx; exact ⟨rfl, rfl⟩)
  case lenA => cases hx; exact ⟨rfl, rfl⟩
  case slS =>
    unfold doSlS at hx
    split at hx
    · split at hx
      · unfold cutS at hx
        split at hx
        · rename_i r _ l gr _
          unfold cutA at hx
          repeat' first | (rw [Bool.cond_eq_ite] at hx; split at hx) | (cases hx; exact ⟨rfl, rfl⟩) | (cases hx; done)
        · cases hx
      · cases hx
    · split at hx <;> cases hx; exact ⟨rfl, rfl⟩
    · split at hx
      · split at hx <;> cases hx; exact ⟨rfl, rfl⟩
      · cases hx
    · cases hx
  case slT => unfold doSlT at hx; split at hx; (split at hx; (split at hx <;> cases hx; exact ⟨rfl, rfl⟩); cases hx); cases hx
  case slA =>
    unfold doSlA at hx
    split at hx
    · split at hx
      · unfold cutA at hx; rw [Bool.cond_eq_ite] at hx; split at hx <;> cases hx <;> exact ⟨rfl, rfl⟩
      · cases hx
    · cases hx
  case mkfn => cases hx; exact ⟨rfl, rfl⟩
  case look =>
    unfold doLook at hx
    split at hx
    · rw [Bool.cond_eq_ite] at hx; split at hx
      · split at hx
        · split at hx <;> cases hx; exact ⟨rfl, rfl⟩
        · cases hx
      · cases hx
    · rw [Bool.cond_eq_ite] at hx; split at hx <;> cases hx; exact ⟨rfl, rfl⟩
    · cases hx
  case mn => unfold doMn at hx; split at hx; (split at hx <;> cases hx; exact ⟨rfl, rfl⟩); cases hx
  case mx => unfold doMx at hx; split at hx; (split at hx <;> cases hx; exact ⟨rfl, rfl⟩); cases hx
end
end Go.AR
namespace Go.AR
section
variable {L : LoopOk} {Γ : G} {h h' : Tr Blk} {nx nx' : Pos} {w : World} {v : AV} {P : Program} {o : Oper} {ρ : Operand → Value} {vs : List AV} {n : Nat}
theorem okv_any {x : Option AV} (hx : okv x h nx = .ok v h' nx') (h2 : Tr Blk) (nx2 : Pos) : okv x h2 nx2 = .ok v h2 nx2 := by
  obtain ⟨rfl, _, _⟩ := okv_inv hx; rfl
theorem zpR_any {k : Bool} {l : List AV} (hx : zpR k l h nx = .ok v h' nx') (h2 : Tr Blk) (nx2 : Pos) : zpR k l h2 nx2 = .ok v h2 nx2 := by
  cases l with
  | nil => cases hx
  | cons a t => cases hx; rfl
theorem pure_exV {cl : AV → List AV → Tr Blk → Pos → Res} {c : OC} (hc : stillC c = true) (hr : readC c = false) (hx : exV cl c vs h nx = .ok v h' nx') (h2 : Tr Blk) (nx2 : Pos) : exV cl c vs h2 nx2 = .ok v h2 nx2 := by
  cases c <;> simp only [stillC, Bool.false_eq_true] at hc <;> simp only [readC, Bool.true_eq_false] at hr <;> simp only [exV] at hx ⊢
  case mv => unfold doMv at hx ⊢; split at hx <;> cases hx; rfl
  case pick => unfold doPick at hx ⊢; split at hx <;> cases hx; rfl
  case bin => unfold doBin at hx ⊢; split at hx; exact okv_any hx _ _; cases hx
  case not => unfold doNot at hx ⊢; split at hx <;> cases hx; rfl
  case neg => unfold doNeg at hx ⊢; split at hx <;> cases hx; rfl
  case com => unfold doCom at hx ⊢; split at hx <;> cases hx; rfl
  case conv => unfold doConv at hx ⊢; split at hx <;> cases hx; rfl
  case build => unfold doBuild at hx ⊢; split at hx <;> cases hx; simp [*]
  case faddr => unfold doFaddr at hx ⊢; split at hx; (cases hx; rfl); exact zpR_any hx _ _; cases hx
  case fld => unfold doFld at hx ⊢; split at hx; exact okv_any hx _ _; cases hx
  case iaddrA => unfold doIaddrA at hx ⊢; split at hx; (rw [Bool.cond_eq_ite] at hx; split at hx <;> cases hx; simp [*]); (rw [Bool.cond_eq_ite] at hx; split at hx; (simp only [*, cond_true]; exact zpR_any hx _ _); cases hx); cases hx
  case iaddrS => unfold doIaddrS at hx ⊢; split at hx; (rw [Bool.cond_eq_ite] at hx; split at hx <;> cases hx; simp [*]); (rw [Bool.cond_eq_ite] at hx; split at hx; (simp only [*, cond_true]; exact zpR_any hx _ _); cases hx); cases hx
  case idxA => unfold doIdxA at hx ⊢; split at hx; (rw [Bool.cond_eq_ite] at hx; split at hx; (simp only [*, cond_true]; exact okv_any hx _ _); cases hx); cases hx
  case idxT => unfold doIdxT at hx ⊢; split at hx; (split at hx <;> cases hx; simp [*]); cases hx
  case nilchk => unfold doNilchk at hx ⊢; split at hx <;> cases hx <;> rfl
  case ext => unfold doExt at hx ⊢; split at hx; exact okv_any hx _ _; cases hx
  case lenA => cases hx; rfl
  case slT => unfold doSlT at hx ⊢; split at hx; (split at hx; (split at hx <;> cases hx; simp [*]); cases hx); cases hx
  case slA k s bb =>
    unfold doSlA at hx ⊢
    split at hx
    · rename_i _ bl o ws
      cases hb : bnds bb k k ws with
      | none => simp [hb] at hx
      | some r =>
        simp only [hb] at hx ⊢
        unfold cutA at hx ⊢
        rw [Bool.cond_eq_ite] at hx ⊢; split at hx <;> cases hx <;> simp [*]
    · cases hx
  case mkfn => cases hx; rfl
  case mn => unfold doMn at hx ⊢; split at hx; (split at hx <;> cases hx; simp [*]); cases hx
  case mx => unfold doMx at hx ⊢; split at hx; (split at hx <;> cases hx; simp [*]); cases hx
mutual
theorem eqA_eq : ∀ {a b : AV}, eqA a b = true → a = b
  | .u, b, h => by cases b <;> first | rfl | (simp [eqA] at h; done)
  | .b x, b, h => by cases b <;> simp [eqA] at h; rw [h]
  | .i k x, b, h => by
    cases b <;> simp only [eqA, Bool.false_eq_true] at h
    rename_i j y
    cases hk : keq k j with
    | false => simp [hk] at h
    | true => simp only [hk, cond_true] at h; rw [ieq_eq] at h; simp at h; rw [keq_eq hk, h]
  | .s l, b, h => by cases b <;> simp only [eqA, Bool.false_eq_true] at h; rw [neqL_eq] at h; simp at h; rw [h]
  | .q n d, b, h => by
    cases b <;> simp only [eqA, Bool.false_eq_true] at h
    rename_i m e
    cases hk : ieq n m with
    | false => simp [hk] at h
    | true => simp only [hk, cond_true] at h; rw [ieq_eq] at hk; simp at hk; rw [hk, Nat.eq_of_beq_eq_true h]
  | .p b o, c, h => by
    cases c <;> simp only [eqA, Bool.false_eq_true] at h
    rename_i b' o'
    cases hk : Pos.beq b b' with
    | false => simp [hk] at h
    | true => simp only [hk, cond_true] at h; rw [Pos.beq_eq hk, Nat.eq_of_beq_eq_true h]
  | .np, b, h => by cases b <;> first | rfl | (simp [eqA] at h; done)
  | .sl b o n c, d, h => by
    cases d <;> simp only [eqA, Bool.false_eq_true] at h
    rename_i b' o' n' c'
    cases hk : Pos.beq b b' with
    | false => simp [hk] at h
    | true =>
      cases h1 : Nat.beq o o' with
      | false => simp [hk, h1] at h
      | true =>
        cases h2 : Nat.beq n n' with
        | false => simp [hk, h1, h2] at h
        | true => simp only [hk, h1, h2, cond_true] at h; rw [Pos.beq_eq hk, Nat.eq_of_beq_eq_true h1, Nat.eq_of_beq_eq_true h2, Nat.eq_of_beq_eq_true h]
  | .ns, b, h => by cases b <;> first | rfl | (simp [eqA] at h; done)
  | .m b, c, h => by cases c <;> simp only [eqA, Bool.false_eq_true] at h; rw [Pos.beq_eq h]
  | .nm, b, h => by cases b <;> first | rfl | (simp [eqA] at h; done)
  | .f f c, d, h => by
    cases d <;> simp only [eqA, Bool.false_eq_true] at h
    rename_i f' c'
    cases hk : Pos.beq f f' with
    | false => simp [hk] at h
    | true => simp only [hk, cond_true] at h; rw [Pos.beq_eq hk, eqL_eq h]
  | .nf, b, h => by cases b <;> first | rfl | (simp [eqA] at h; done)
  | .ni, b, h => by cases b <;> first | rfl | (simp [eqA] at h; done)
  | .g n, c, h => by cases c <;> simp only [eqA, Bool.false_eq_true] at h; rw [Nat.eq_of_beq_eq_true h]
  | .y b, c, h => by cases c <;> simp only [eqA, Bool.false_eq_true] at h; rw [Pos.beq_eq h]
  | .a l, c, h => by cases c <;> simp only [eqA, Bool.false_eq_true] at h; rw [eqL_eq h]
  | .t l, c, h => by cases c <;> simp only [eqA, Bool.false_eq_true] at h; rw [eqL_eq h]
  | .z k l n x, c, h => by
    cases c <;> simp only [eqA, Bool.false_eq_true] at h
    rename_i k' l' n' x'
    cases hk : k == k' with
    | false => simp [hk] at h
    | true =>
      cases h1 : Nat.beq n n' with
      | false => simp [hk, h1] at h
      | true =>
        cases h2 : x == x' with
        | false => simp [hk, h1, h2] at h
        | true => simp only [hk, h1, h2, cond_true] at h; rw [eq_of_beq hk, Nat.eq_of_beq_eq_true h1, eq_of_beq h2, eqL_eq h]
  | .zp k l, c, h => by
    cases c <;> simp only [eqA, Bool.false_eq_true] at h
    rename_i k' l'
    cases hk : k == k' with
    | false => simp [hk] at h
    | true => simp only [hk, cond_true] at h; rw [eq_of_beq hk, eqL_eq h]
theorem eqL_eq : ∀ {a b : List AV}, eqL a b = true → a = b
  | [], b, h => by cases b with | nil => rfl | cons => simp [eqL] at h
  | x :: a, b, h => by
    cases b with
    | nil => simp [eqL] at h
    | cons y b =>
      simp only [eqL] at h
      cases hk : eqA x y with
      | false => simp [hk] at h
      | true => simp only [hk, cond_true] at h; rw [eqA_eq hk, eqL_eq h]
end
theorem sameV_eq {a b : AV} (hs : sameV a b = true) : a = b := eqA_eq hs
mutual
theorem eqA_self : ∀ a : AV, eqA a a = true
  | .u => rfl
  | .b x => by simp [eqA]
  | .i k n => by simp [eqA, keq, ieq_eq]
  | .s l => by simp [eqA, neqL_eq]
  | .q n d => by simp [eqA, ieq_eq]
  | .p b o => by simp [eqA, Pos.beq_self]
  | .np => rfl
  | .sl b o n c => by simp [eqA, Pos.beq_self]
  | .ns => rfl
  | .m b => by simp [eqA, Pos.beq_self]
  | .nm => rfl
  | .f f c => by simp [eqA, Pos.beq_self, eqL_self c]
  | .nf => rfl
  | .ni => rfl
  | .g n => by simp [eqA]
  | .y l => by simp [eqA, Pos.beq_self]
  | .a l => by simp [eqA, eqL_self l]
  | .t l => by simp [eqA, eqL_self l]
  | .z k l n x => by simp [eqA, eqL_self l]
  | .zp k l => by simp [eqA, eqL_self l]
theorem eqL_self : ∀ l : List AV, eqL l l = true
  | [] => rfl
  | x :: l => by simp [eqL, eqA_self x, eqL_self l]
end
theorem sameV_self (a : AV) : sameV a a = true := eqA_self a
theorem compO_new {op : Go.Op} {c : OC} {xs : List Operand} (h : compO P n op = some (c, xs)) (hc : newC c = true) :
    (∃ t, op = .alloc t) ∨ (∃ t x, op = .box t x) ∨ (∃ t m ps, op = .buildSlice t m ps) ∨ (∃ t x y, op = .makeSlice t x y) ∨ (∃ t, op = .makeMap t none) := by
  unfold compO at h
  split at h
  all_goals first
    | exact .inl ⟨_, rfl⟩ | exact .inr (.inl ⟨_, _, rfl⟩) | exact .inr (.inr (.inl ⟨_, _, _, rfl⟩)) | exact .inr (.inr (.inr (.inl ⟨_, _, _, rfl⟩))) | exact .inr (.inr (.inr (.inr ⟨_, rfl⟩)))
    | (simp only [Option.some.injEq, Prod.mk.injEq] at h; obtain ⟨rfl, rfl⟩ := h; cases hc; done)
    | (repeat' split at h) <;> first | (cases h; done) | (simp only [Option.map_eq_some_iff, Option.some.injEq, Prod.mk.injEq] at h; obtain ⟨_, _, rfl, rfl⟩ := h; cases hc; done) | (simp only [Option.some.injEq, Prod.mk.injEq] at h; obtain ⟨rfl, rfl⟩ := h; cases hc; done)
theorem newOf_new {c : OC} {b : Pos} {r : AV × Blk} (hn : newOf c vs b = some r) : newC c = true := by
  cases c <;> first | rfl | (cases hn; done)
def Late (L : LoopOk) (P : Program) (Γ : G) (b : Pos) (B : Blk) (v : AV) (w : World) (r : Result Next) : Prop :=
  ∃ e ob v', r = .ok (.value v') (w.alloc ob) ∧ e.rb = w.heap.size ∧ B ≠ .dead ∧ BlkRel L (Γ.add b e) e B ob ∧ V (Γ.add b e) v v'
theorem cells_new {b : Pos} (hb : Γ.μ b = none) {l : List AV} {vl : List Value} (hl : VL Γ l vl) (t : TypeId) (w : World) :
    BlkRel L (Γ.add b (newE w l.length l.length 0)) (newE w l.length l.length 0) (.cells l 0) (.cells vl.toArray t (0, 0)) :=
  .cells (e := newE w l.length l.length 0) l _ t [] vl [] (by simp) rfl (VL.mono (G.le_add _ hb) hl) rfl rfl (fun _ => rfl)
theorem late_run {b : Pos} (hb : Γ.μ b = none) {c : OC} {B : Blk} (hn : newOf c vs b = some (v, B)) {xs : List Operand} (hc : compO P n o.op = some (c, xs)) (hv : VL Γ vs (xs.map ρ)) (w : World) : Late L P Γ b B v w ((execOp ρ o).run P w) := by
  cases hop : o.op with
  | alloc t =>
    rw [hop] at hc; simp only [compO, Option.map_eq_some_iff] at hc
    obtain ⟨z, hz, hc⟩ := hc; cases hc
    cases hv
    cases hn
    obtain ⟨zv, hz1, hz2⟩ := zeroOf_run hz
    refine ⟨newE w z.length z.length 0, _, .pointer (some ⟨w.heap.size, 0, none⟩), ?_, rfl, by simp, cells_new hb (hz2 Γ) t w, .p b 0 _ (G.add_same _ _)⟩
    simp only [execOp, hop]
    exact runv' (by simp [Instr.alloc, zeroV_run hz1, newVar, newRow_run])
  | box t x =>
    rw [hop] at hc; cases hc
    cases vs with
    | nil => cases hn
    | cons a vs => cases vs with
      | cons a' vs => cases hn
      | nil =>
        cases hn
        obtain ⟨_, e, h2⟩ := hv.inv1
        simp only [List.map_cons, List.map_nil, List.cons.injEq, and_true] at e
        refine ⟨newE w (cellsOf a).length (cellsOf a).length 0, _, .pointer (some ⟨w.heap.size, 0, none⟩), ?_, rfl, by simp, cells_new hb h2.cells t w, .p b 0 _ (G.add_same _ _)⟩
        simp only [execOp, hop]
        exact runv' (by simp [Instr.box, newVar, newRow_run, e])
  | buildSlice t m ps =>
    rw [hop] at hc; simp only [compO] at hc
    split at hc
    · rename_i e hu
      split at hc
      · rename_i z s hz hs
        split at hc
        · rename_i h4
          simp only [Option.map_eq_some_iff] at hc
          obtain ⟨⟨os, ys⟩, hc, hc'⟩ := hc; cases hc'
          obtain ⟨hzs, h0, hm⟩ := h4
          simp only [newOf] at hn
          split at hn
          · rename_i l hl
            cases hn
            obtain ⟨i, hi, his⟩ := info_of_sz hs
            obtain ⟨zv, hzv, hz2⟩ := zero_of_info hi hz
            have hzsz : zv.cells.size = s := by rw [← Array.length_toList, (hz2 Γ).length, hzs]
            have hrow := madeRow (m := m) (hz2 Γ) hzsz h0
            obtain ⟨cells', h1, h2⟩ := fill_run (P := P) (Γ := Γ) (ρ := ρ) (place := fun i => some (i * s, s)) (fun i f hf => by
              simp only [List.getElem?_map, Option.map_eq_some_iff] at hf
              obtain ⟨j, hj, rfl⟩ := hf
              have := List.getElem?_eq_some_iff.1 hj
              obtain ⟨_, hj⟩ := this
              simp at hj; subst hj; rfl) ps.toList os ys vs (rep m z) l _ hc hv hrow hl
            have hrel := cells_new (L := L) hb h2 e w
            rw [Array.toArray_toList] at hrel
            by_cases hm0 : m = 0
            · subst hm0
              have hps : ps.toList = [] := by
                cases hq : ps.toList with
                | nil => rfl
                | cons a b => rw [hq] at hc; simp [compOs] at hc
              have hps : ps = #[] := by rw [← Array.toArray_toList (xs := ps), hps]
              subst hps
              have r0 : Array.range 0 = #[] := rfl
              have hc' : cells' = #[] := by simpa [Instr.fill, r0] using h1.symm
              subst hc'
              refine ⟨_, _, .slice (some ⟨w.heap.size, 0, none⟩) 0 0, ?_, rfl, by simp, hrel, .sl b 0 0 0 0 _ (G.add_same _ _) (Nat.le_refl _) (.inl rfl)⟩
              simp only [execOp, hop]
              exact runv' (by simp [Instr.buildSlice, run_underlying hu, szOf_run hs, Instr.fill, newRow_run, r0])
            · refine ⟨_, _, .slice (some ⟨w.heap.size, 0, none⟩) m m, ?_, rfl, by simp, hrel, .sl b 0 m m m _ (G.add_same _ _) (Nat.le_refl _) (.inl rfl)⟩
              simp only [execOp, hop]
              have hpos : 0 < m * s := Nat.mul_pos (by omega) h0
              refine runv' (run_buildSlice w t e m _ cells' i zv hu hi hzv (by rw [his]; omega) (by rw [his]; omega) ?_)
              rw [Array.toList_map, his]
              exact h1
          · cases hn
        · cases hc
      · cases hc
    · cases hc
  | makeSlice t x y =>
    rw [hop] at hc; simp only [compO] at hc
    split at hc
    · rename_i e hu
      split at hc
      · rename_i z s i hz hs hi
        split at hc
        · rename_i h5; cases hc
          obtain ⟨hzs, h0, hby⟩ := h5
          simp only [newOf] at hn
          split at hn
          · rename_i k n k' c
            cases h1 : Nat.ble n c with
            | false => simp [h1] at hn
            | true =>
              cases h2 : Nat.ble c 16777216 with
              | false => simp [h1, h2] at hn
              | true =>
                simp only [h1, h2, cond_true] at hn; cases hn
                have hnc := ble_le h1
                have hc := ble_le h2
                obtain ⟨_, _, e', g1, g2⟩ := hv.inv2
                simp only [List.map_cons, List.map_nil, List.cons.injEq, and_true] at e'
                obtain ⟨e1, e2⟩ := e'
                cases g1; cases g2
                obtain ⟨zv, hzv, hz2⟩ := zero_of_info hi hz
                have his : i.size = s := by unfold szOf at hs; rw [hi] at hs; simpa using hs
                have hzsz : zv.cells.size = s := by rw [← Array.length_toList, (hz2 Γ).length, hzs]
                have hrow := madeRow (m := c) (hz2 Γ) hzsz h0
                have hrel := cells_new (L := L) hb hrow e w
                rw [Array.toArray_toList] at hrel
                have hbytes : (i.bytes : Int) * ((c : Nat) : Int) ≤ 281474976710656 := by
                  have : i.bytes * c ≤ 1048576 * 16777216 := Nat.mul_le_mul hby hc
                  have q : ((i.bytes * c : Nat) : Int) ≤ 281474976710656 := by omega
                  rwa [Int.natCast_mul] at q
                have hrun := run_make (P := P) w t e i zv hu hi hzv k k' (n : Int) (c : Int) (by omega) (by omega) hbytes (by omega)
                simp only [Int.toNat_natCast, his] at hrun
                refine ⟨_, _, .slice (some ⟨w.heap.size, 0, none⟩) n c, ?_, rfl, by simp, hrel, .sl b 0 n c c _ (G.add_same _ _) hnc (.inl rfl)⟩
                simp only [execOp, hop, e1, e2]
                exact runv' hrun
          · cases hn
        · cases hc
      · cases hc
    · cases hc
  | makeMap t r =>
    rw [hop] at hc
    cases r with
    | some r => simp [compO] at hc
    | none =>
      simp only [compO] at hc
      split at hc
      · cases hc
        cases hv
        cases hn
        have hrun : (Instr.makeMap t none).run P w = .ok (.map (some w.heap.size)) (w.alloc (.map #[] 0)) := by simp [Instr.makeMap]
        refine ⟨⟨w.heap.size, 0, 0, 0, 0⟩, .map #[] 0, .map (some w.heap.size), ?_, rfl, by simp, .map [] #[] 0 ⟨[], .refl _, .nil⟩, .m b _ (G.add_same _ _)⟩
        simp only [execOp, hop, Option.map_none]
        exact runv' hrun
      · cases hc
  | _ => rcases compO_new hc (newOf_new hn) with ⟨_, e⟩ | ⟨_, _, e⟩ | ⟨_, _, _, e⟩ | ⟨_, _, _, e⟩ | ⟨_, e⟩ <;> rw [hop] at e <;> cases e
end
end Go.AR
namespace Go.AR
inductive Before (ops : Array Oper) : Nat → Nat → Prop
  | edge {i : Nat} {o : Oper} {e : Edge} (ho : ops[i]? = some o) (he : e ∈ o.after) (hb : Region.binds .any e = true) : Before ops e.on i
  | trans {i j : Nat} {o : Oper} {e : Edge} (ho : ops[i]? = some o) (he : e ∈ o.after) (hb : Region.binds .any e = true) (h : Before ops j e.on) : Before ops j i
def Ls (lst : Array Bool) (i : Nat) : Prop := lst.getD i false = true
def Closed (ops : Array Oper) (lst : Array Bool) : Prop := ∀ j i, Before ops j i → Ls lst i → Ls lst j
section
variable {ops : Array Oper} {lst : Array Bool} {i j : Nat}
theorem ls_set (hi : i < lst.size) : Ls (lst.setIfInBounds i true) j ↔ j = i ∨ Ls lst j := by
  unfold Ls
  by_cases h : i = j
  · subst h; simp [hi]
  · rw [getD_set_ne false h]; exact ⟨.inr, fun h' => h'.resolve_left (fun e => h e.symm)⟩
theorem not_ls {i : Nat} (h : lst.getD i true = false) : ¬ Ls lst i := by
  unfold Ls
  rcases Nat.lt_or_ge i lst.size with h' | h'
  · simp [h'] at h ⊢; exact h
  · simp [Array.getElem?_eq_none h'] at h
theorem ready_lt (hr : i ∈ Region.ready .any ops lst) : i < ops.size := by
  obtain ⟨_, o, ho, _⟩ := mem_ready.1 hr
  exact (Array.getElem?_eq_some_iff.1 ho).1
theorem ready_before (hc : Closed ops lst) (hr : i ∈ Region.ready .any ops lst) (hb : Before ops j i) : Ls lst j := by
  obtain ⟨_, o, ho, hall⟩ := mem_ready.1 hr
  cases hb with
  | edge ho' he hb => rw [ho] at ho'; cases ho'; exact hall _ he hb
  | trans ho' he hb h => rw [ho] at ho'; cases ho'; exact hc _ _ h (hall _ he hb)
theorem closed_set (hc : Closed ops lst) (hs : lst.size = ops.size) (hr : i ∈ Region.ready .any ops lst) : Closed ops (lst.setIfInBounds i true) := by
  have hi := ready_lt hr
  intro j k hb hk
  rw [ls_set (by omega)] at hk ⊢
  rcases hk with rfl | hk
  · exact .inr (ready_before hc hr hb)
  · exact .inr (hc j k hb hk)
end
def It.idx (x : It) : List Nat := x.i :: x.js
inductive ItOk (cs : List Op) : It → Prop
  | one (i : Nat) (o : Op) (hc : cs[i]? = some o) (hl : stillC o.c = true ∨ (newC o.c = true ∧ ∃ d, o.d = some d)) : ItOk cs (⟨i, [], o, false⟩ : It)
  | lit (i : Nat) (js : List Nat) (d : Pos) (m : Nat) (e : EK) (kvs : List (X × X)) (hm : cs[i]? = some (⟨some d, none, .mkmap, []⟩ : Op)) (hl : kvs.length = js.length)
      (hj : ∀ (q j : Nat) (kv : X × X), js[q]? = some j → kvs[q]? = some kv → cs[j]? = some (⟨none, none, .ins m e, [.t d, kv.1, kv.2]⟩ : Op)) (hk : ∀ kv ∈ kvs, kv.1 ≠ X.t d ∧ kv.2 ≠ X.t d) (hn : (i :: js).Nodup) (hne : js ≠ []) :
      ItOk cs (⟨i, js, (⟨some d, none, .mapl m e, kvs.flatMap fun kv => [kv.1, kv.2]⟩ : Op), false⟩ : It)
theorem ItOk.hv {cs : List Op} {x : It} (h : ItOk cs x) : x.hv = false := by cases h <;> rfl
def Leaves (x y : It) : Prop := ∀ p, y.o.d = some p → x.o.d ≠ some p ∧ ¬ reads x.o p
section
variable {T : Tr AV} {h h' : Tr Blk} {nx nx' : Pos} {v : AV}
theorem get_setD {d : Option Pos} {p : Pos} (hp : d ≠ some p) : (setD d v T).get p = T.get p := by
  cases d with
  | none => rfl
  | some q => exact Tr.get_set_other v T (fun e => hp (by rw [e]))
theorem get_setD_same {p : Pos} : (setD (some p) v T).get p = some v := Tr.get_set_same p v T
theorem evs_congr {T' : Tr AV} : ∀ {l : List X}, (∀ p, X.t p ∈ l → T'.get p = T.get p) → evs T' l = evs T l
  | [], _ => rfl
  | x :: l, hl => by
    have h1 : ev T' x = ev T x := by cases x with | t p => exact hl p (by simp) | c v => rfl
    have h2 := evs_congr (l := l) (fun p hp => hl p (by simp [hp]))
    show (Option.casesOn (ev T' x) none (fun v => Option.casesOn (evs T' l) none (fun r => some (v :: r))) : Option (List AV)) = _
    rw [h1, h2]; rfl
theorem wantG_congr {T' : Tr AV} {g : Option (Pos × Bool)} (hg : ∀ p b, g = some (p, b) → T'.get p = T.get p) : wantG T' g = wantG T g := by
  cases g with
  | none => rfl
  | some q => obtain ⟨p, b⟩ := q; unfold wantG; simp only [hg p b rfl]
theorem exOp_congr {T' : Tr AV} {o : Op} (hg : ∀ p, reads o p → T'.get p = T.get p) (cl : AV → List AV → Tr Blk → Pos → Res) : exOp cl o T' h nx = exOp cl o T h nx := by
  unfold exOp
  rw [wantG_congr (fun p b e => hg p (.inr ⟨b, e⟩)), evs_congr (fun p hp => hg p (.inl hp))]
theorem exOp_inv {cl : AV → List AV → Tr Blk → Pos → Res} {o : Op} (hx : exOp cl o T h nx = .ok v h' nx') :
    (wantG T o.g = some false ∧ v = .u ∧ h' = h ∧ nx' = nx) ∨ (wantG T o.g = some true ∧ ∃ vs, evs T o.asx = some vs ∧ exV cl o.c vs h nx = .ok v h' nx') := by
  unfold exOp at hx
  cases hw : wantG T o.g with
  | none => simp [hw] at hx
  | some q =>
    cases q with
    | false => simp only [hw] at hx; cases hx; exact .inl ⟨rfl, rfl, rfl, rfl⟩
    | true =>
      simp only [hw] at hx
      cases he : evs T o.asx with
      | none => simp [he] at hx
      | some vs => simp only [he] at hx; exact .inr ⟨rfl, vs, rfl, hx⟩
theorem exOp_off {cl : AV → List AV → Tr Blk → Pos → Res} {o : Op} (hw : wantG T o.g = some false) : exOp cl o T h nx = .ok .u h nx := by unfold exOp; rw [hw]
theorem exOp_on {cl : AV → List AV → Tr Blk → Pos → Res} {o : Op} (hw : wantG T o.g = some true) {vs : List AV} (he : evs T o.asx = some vs) : exOp cl o T h nx = exV cl o.c vs h nx := by unfold exOp; rw [hw, he]
inductive Pend (nx0 : Pos) (Γ : G) (T : Tr AV) (h : Tr Blk) (nx : Pos) (x : It) : Prop
  | still (v : AV) (hd : ∀ d, x.o.d = some d → T.get d = some v) (hx : exOp noCall x.o T h nx = .ok v h nx) (hc : stillC x.o.c = true ∨ wantG T x.o.g = some false)
  | new (v : AV) (hd : ∀ d, x.o.d = some d → T.get d = some v) (hw : wantG T x.o.g = some true) (vs : List AV) (b : Pos) (B : Blk) (he : evs T x.o.asx = some vs) (hn : newOf x.o.c vs b = some (v, B))
      (hm : Γ.μ b = none) (h0 : nx0.num ≤ b.num) (h1 : b.num < nx.num) (hb : h.get b = some B)
theorem Pend.born {nx0 : Pos} {Γ : G} {x : It} (hl : stillC x.o.c = true ∨ newC x.o.c = true) (hself : Leaves x x ∨ ∀ p, x.o.d = some p → ¬ reads x.o p) (hx : exOp noCall x.o T h nx = .ok v h' nx') (hnx : nx0.num ≤ nx.num) (hm : Γ.μ nx = none) :
    Pend nx0 Γ (setD x.o.d v T) h' nx' x := by
  have hs : ∀ p, x.o.d = some p → ¬ reads x.o p := fun p hp => by
    rcases hself with h | h
    · exact (h p hp).2
    · exact h p hp
  have hget : ∀ p, reads x.o p → (setD x.o.d v T).get p = T.get p := fun p hp => get_setD (fun e => hs p e hp)
  have hd : ∀ d, x.o.d = some d → (setD x.o.d v T).get d = some v := fun d e => by rw [e]; exact get_setD_same
  have hw : wantG (setD x.o.d v T) x.o.g = wantG T x.o.g := wantG_congr (fun p b e => hget p (.inr ⟨b, e⟩))
  have he : evs (setD x.o.d v T) x.o.asx = evs T x.o.asx := evs_congr (fun p hp => hget p (.inl hp))
  rcases exOp_inv hx with ⟨h1, rfl, rfl, rfl⟩ | ⟨h1, vs, h2, h3⟩
  · exact .still .u hd (exOp_off (by rw [hw]; exact h1)) (.inr (by rw [hw]; exact h1))
  · rcases hl with hl | hl
    · obtain ⟨rfl, rfl⟩ := still_exV hl h3
      exact .still v hd (by rw [exOp_on (by rw [hw]; exact h1) (by rw [he]; exact h2)]; exact h3) (.inl hl)
    · obtain ⟨B, h4, rfl, rfl⟩ := newOf_exV hl h3
      exact .new v hd (by rw [hw]; exact h1) vs nx B (by rw [he]; exact h2) h4 hm hnx (by rw [Pos.num_succ]; omega) (Tr.get_set_same _ _ _)
theorem Pend.keep {nx0 : Pos} {Γ Γ' : G} {x : It} {T' : Tr AV} (hp : Pend nx0 Γ T h nx x) (hr : readC x.o.c = false) (hd : ∀ d, x.o.d = some d → T'.get d = T.get d) (hg : ∀ p, reads x.o p → T'.get p = T.get p)
    (hnx : nx.num ≤ nx'.num) (hb : ∀ b, Γ.μ b = none → b.num < nx.num → Γ'.μ b = none ∧ h'.get b = h.get b) : Pend nx0 Γ' T' h' nx' x := by
  have hw : wantG T' x.o.g = wantG T x.o.g := wantG_congr (fun p b e => hg p (.inr ⟨b, e⟩))
  have he : evs T' x.o.asx = evs T x.o.asx := evs_congr (fun p hp => hg p (.inl hp))
  cases hp with
  | still v h1 h2 h3 =>
    refine .still v (fun d e => by rw [hd d e]; exact h1 d e) ?_ (h3.imp id fun h => by rw [hw]; exact h)
    rcases exOp_inv h2 with ⟨g1, rfl, _, _⟩ | ⟨g1, vs, g2, g3⟩
    · exact exOp_off (by rw [hw]; exact g1)
    · rw [exOp_on (by rw [hw]; exact g1) (by rw [he]; exact g2)]
      rcases h3 with h3 | h3
      · exact pure_exV h3 hr g3 _ _
      · rw [g1] at h3; cases h3
  | new v h1 h2 vs b B h3 h4 h5 h6 h7 h8 =>
    obtain ⟨q1, q2⟩ := hb b h5 h7
    exact .new v (fun d e => by rw [hd d e]; exact h1 d e) (by rw [hw]; exact h2) vs b B (by rw [he]; exact h3) h4 q1 h6 (by omega) (by rw [q2]; exact h8)
theorem again_pend {nx0 : Pos} {Γ : G} : ∀ {A : List It}, again A T h nx = true → ∀ x ∈ A, stillC x.o.c = true → Pend nx0 Γ T h nx x
  | [], _, x, hx, _ => by cases hx
  | y :: A, ha, x, hx, hc => by
    have ha : (match exOp noCall y.o T h nx, y.o.d with
      | .ok v _ _, some d => (match T.get d with | some w => bif sameV v w then again A T h nx else false | none => false)
      | _, _ => false) = true := ha
    split at ha
    · rename_i v h1 nx1 d hx1 hd
      split at ha
      · rename_i u hT
        cases hs : sameV v u with
        | false => simp [hs] at ha
        | true =>
          simp only [hs, cond_true] at ha
          cases hx with
          | tail _ hx => exact again_pend ha x hx hc
          | head =>
            have := sameV_eq hs; subst this
            have hst : h1 = h ∧ nx1 = nx := by
              rcases exOp_inv hx1 with ⟨_, _, g1, g2⟩ | ⟨_, vs, _, g3⟩
              · exact ⟨g1, g2⟩
              · exact still_exV hc g3
            obtain ⟨rfl, rfl⟩ := hst
            exact .still v (fun d' e => by rw [hd] at e; cases e; exact hT) hx1 (.inl hc)
      · cases ha
    · cases ha
end
end Go.AR
namespace Go.AR
def blkV : AV → Option Pos
  | .p b _ => some b
  | .sl b _ _ _ => some b
  | .m b => some b
  | _ => none
theorem newOf_blk {c : OC} {vs : List AV} {b : Pos} {v : AV} {B : Blk} (hn : newOf c vs b = some (v, B)) : blkV v = some b := by
  cases c <;> simp only [newOf, reduceCtorEq] at hn
  case alloc => split at hn <;> cases hn; rfl
  case box => split at hn <;> cases hn; rfl
  case bslice => split at hn <;> cases hn; rfl
  case mkslice =>
    split at hn
    · repeat' first | (rw [Bool.cond_eq_ite] at hn; split at hn) | (cases hn; rfl) | (cases hn; done)
    · cases hn
  case mkmap => split at hn <;> cases hn; rfl
  case mapl =>
    split at hn
    · rw [Bool.cond_eq_ite] at hn; split at hn <;> cases hn; rfl
    · cases hn
def sel (lst : Array Bool) : List (AV × AV) → List Nat → List (AV × AV)
  | x :: l, j :: js => if lst.getD j false then x :: sel lst l js else sel lst l js
  | _, _ => []
theorem sel_congr {lst lst' : Array Bool} : ∀ {l : List (AV × AV)} {js : List Nat}, (∀ j ∈ js, lst'.getD j false = lst.getD j false) → sel lst' l js = sel lst l js
  | [], [], _ => rfl
  | [], _ :: _, _ => rfl
  | _ :: _, [], _ => rfl
  | x :: l, j :: js, h => by unfold sel; rw [h j (by simp), sel_congr (fun k hk => h k (by simp [hk]))]
theorem sel_all {lst : Array Bool} : ∀ {l : List (AV × AV)} {js : List Nat}, l.length = js.length → (∀ j ∈ js, lst.getD j false = true) → sel lst l js = l
  | [], [], _, _ => rfl
  | [], _ :: _, h, _ => by simp at h
  | _ :: _, [], h, _ => by simp at h
  | x :: l, j :: js, h, hj => by unfold sel; rw [if_pos (hj j (by simp)), sel_all (by simpa using h) (fun k hk => hj k (by simp [hk]))]
theorem sel_none {lst : Array Bool} : ∀ {l : List (AV × AV)} {js : List Nat}, (∀ j ∈ js, lst.getD j false = false) → sel lst l js = []
  | [], [], _ => rfl
  | [], _ :: _, _ => rfl
  | _ :: _, [], _ => rfl
  | x :: l, j :: js, hj => by unfold sel; rw [if_neg (by rw [hj j (by simp)]; simp), sel_none (fun k hk => hj k (by simp [hk]))]
theorem sel_set {lst : Array Bool} {i : Nat} (hi : i < lst.size) : ∀ {l : List (AV × AV)} {js : List Nat} {q : Nat} {x : AV × AV}, js.Nodup → js[q]? = some i → l[q]? = some x → lst.getD i false = false →
    (sel (lst.setIfInBounds i true) l js).Perm (x :: sel lst l js)
  | [], _, q, x, _, _, hx, _ => by simp at hx
  | _ :: _, [], q, x, _, hj, _, _ => by simp at hj
  | y :: l, j :: js, q, x, hn, hj, hx, hl => by
    obtain ⟨hjn, hn⟩ := List.nodup_cons.1 hn
    cases q with
    | zero =>
      simp only [List.getElem?_cons_zero, Option.some.injEq] at hj hx
      subst hj; subst hx
      unfold sel
      rw [if_pos (by simp [hi]), if_neg (by rw [hl]; simp)]
      rw [sel_congr (lst := lst) (fun k hk => getD_set_ne false (fun e => hjn (by rw [e]; exact hk)))]
    | succ q =>
      simp only [List.getElem?_cons_succ] at hj hx
      have hji : i ≠ j := fun e => hjn (by rw [← e]; exact List.mem_of_getElem? hj)
      have ih := sel_set hi hn hj hx hl
      unfold sel
      rw [getD_set_ne false hji]
      split
      · exact (ih.cons y).trans (List.Perm.swap x y _)
      · exact ih
inductive Half (s0 : Nat) (nx0 : Pos) (Γ : G) (T : Tr AV) (h : Tr Blk) (nx : Pos) (lst : Array Bool) (tmps : Array Value) (w : World) (x : It) : Prop
  | mk (t : Nat) (vs : List AV) (l : List (AV × AV)) (b : Pos) (rb : Nat) (es : Array MapEntry) (ck : Nat) (l' : List (AV × AV)) (hd : x.o.d = some (pos t)) (hT : T.get (pos t) = some (.m b)) (hg : wantG T x.o.g = some true)
      (he : evs T x.o.asx = some vs) (hn : newOf x.o.c vs b = some (.m b, .map l)) (hps : pairs vs = some l) (hm : Γ.μ b = none) (h0 : nx0.num ≤ b.num) (h1 : b.num < nx.num) (hb : h.get b = some (.map l))
      (ht : tmps[t]? = some (.map (some rb))) (hw : w.heap[rb]? = some (.map es ck)) (hlow : s0 ≤ rb) (hown : ¬ Owned Γ h rb) (hz : (∀ k, Γ.ζ k rb = none)) (hel : EL Γ l' es.toList) (hp : l'.Perm (sel lst l x.js)) : Half s0 nx0 Γ T h nx lst tmps w x
def On (Ex : List It) (lst : Array Bool) (p : Pos) : Prop := ∀ y ∈ Ex, y.o.d = some p → ∀ j ∈ y.idx, Ls lst j
def Halfway (lst : Array Bool) (x : It) : Prop := Ls lst x.i ∧ ∃ j ∈ x.js, ¬ Ls lst j
def NewAt (T : Tr AV) (x : It) (b : Pos) : Prop := newC x.o.c = true ∧ wantG T x.o.g = some true ∧ ∃ d u, x.o.d = some d ∧ T.get d = some u ∧ blkV u = some b
structure Stat (P : Program) (n : Nat) (ops : Array Oper) (cs : List Op) (All : List It) : Prop where
  co : compOps P n ops = some cs
  dj : ∀ x ∈ All, ∀ y ∈ All, ∀ i, i ∈ x.idx → i ∈ y.idx → x = y
  dd : ∀ x ∈ All, ∀ y ∈ All, ∀ p, x.o.d = some p → y.o.d = some p → x = y
  self : ∀ x ∈ All, ∀ p, x.o.d = some p → ¬ reads x.o p
  rd : ∀ i o, cs[i]? = some o → ∀ p, reads o p → ∀ y ∈ All, y.o.d = some p → (∀ j ∈ y.idx, Before ops j i) ∨ (i ∈ y.js ∧ Before ops y.i i) ∨ (y.hv = true ∧ Before ops i y.i)
  hb : ∀ x ∈ All, ∀ j ∈ x.js, Before ops x.i j
  lt : ∀ x ∈ All, ∀ i ∈ x.idx, i < ops.size
  nd : ∀ x ∈ All, newC x.o.c = true → ∃ d, x.o.d = some d
structure Inv (L : LoopOk) (Γ0 : G) (h0 : Tr Blk) (nx0 : Pos) (w0 : World) (a0 : Act) (ops : Array Oper) (n : Nat) (E Hd : List It) (lst : Array Bool) (Γ : G) (T : Tr AV) (h : Tr Blk) (nx : Pos) (a : Act) (w : World) : Prop where
  st : St L Γ0 h0 nx0 w0 Γ h nx w
  size : n ≤ a.tmps.size
  sz : a.tmps.size = a0.tmps.size
  df : a.defers = a0.defers
  lsz : lst.size = ops.size
  closed : Closed ops lst
  on : TRon Γ n T a.tmps (On (E ++ Hd) lst)
  pend : ∀ x ∈ E, ¬ Ls lst x.i → Pend nx0 Γ T h nx x
  half : ∀ x ∈ E, Halfway lst x → Half w0.heap.size nx0 Γ T h nx lst a.tmps w x
  hd : ∀ x ∈ Hd, Ls lst x.i
  low : ∀ x ∈ E, ∀ b, NewAt T x b → b.num < nx.num
  apart : ∀ x ∈ E, ∀ y ∈ E, ∀ b, NewAt T x b → NewAt T y b → x = y
  alone : ∀ x ∈ E, ∀ y ∈ E, Halfway lst x → Halfway lst y → ∀ t t' rb, x.o.d = some (pos t) → y.o.d = some (pos t') → a.tmps[t]? = some (.map (some rb)) → a.tmps[t']? = some (.map (some rb)) → x = y
section
variable {L : LoopOk} {Γ0 : G} {h0 : Tr Blk} {nx0 : Pos} {w0 : World} {a0 : Act} {ops : Array Oper} {n : Nat} {E Hd All : List It} {lst : Array Bool} {Γ Γ' : G} {T : Tr AV} {h : Tr Blk} {nx : Pos} {a a' : Act} {w w' : World}
  {P : Program} {cs : List Op} {x : It} {i : Nat}
theorem EL.mono' {l : List (AV × AV)} {es : List MapEntry} (hl : Γ.le Γ') (h : EL Γ l es) : EL Γ' l es := EL.mono hl h
theorem Inv.light (S : Stat P n ops cs All) (I : Inv L Γ0 h0 nx0 w0 a0 ops n E Hd lst Γ T h nx a w) (hEA : ∀ y ∈ E, y ∈ All) (hx : x ∈ E) (hi : i ∈ x.idx) (hr : i ∈ Region.ready .any ops lst)
    (hst : St L Γ0 h0 nx0 w0 Γ' h nx w') (hle : Γ.le Γ') (hsz : a'.tmps.size = a.tmps.size) (hdf : a'.defers = a.defers)
    (hμ : ∀ b, b.num < nx.num → Γ.μ b = none → Γ'.μ b = none ∨ NewAt T x b)
    (hoth : ∀ y ∈ E, y ≠ x → ∀ t, y.o.d = some (pos t) → a'.tmps[t]? = a.tmps[t]?)
    (hheap : ∀ y ∈ E, y ≠ x → Halfway lst y → ∀ t rb es ck, y.o.d = some (pos t) → a.tmps[t]? = some (.map (some rb)) → w.heap[rb]? = some (.map es ck) → ¬ Owned Γ h rb → (∀ k, Γ.ζ k rb = none) → w'.heap[rb]? = w.heap[rb]? ∧ ¬ Owned Γ' h rb ∧ (∀ k, Γ'.ζ k rb = none))
    (hon : TRon Γ' n T a'.tmps (On (E ++ Hd) (lst.setIfInBounds i true)))
    (hhalf : Halfway (lst.setIfInBounds i true) x → Half w0.heap.size nx0 Γ' T h nx (lst.setIfInBounds i true) a'.tmps w' x)
    (halone : ∀ y ∈ E, y ≠ x → Halfway (lst.setIfInBounds i true) x → Halfway lst y → ∀ t t' rb, x.o.d = some (pos t) → y.o.d = some (pos t') → a'.tmps[t]? = some (.map (some rb)) → a.tmps[t']? ≠ some (.map (some rb))) :
    Inv L Γ0 h0 nx0 w0 a0 ops n E Hd (lst.setIfInBounds i true) Γ' T h nx a' w' := by
  have hin : i < lst.size := by rw [I.lsz]; exact ready_lt hr
  have hset : ∀ j, Ls (lst.setIfInBounds i true) j ↔ j = i ∨ Ls lst j := fun j => ls_set hin
  have hother : ∀ y ∈ E, y ≠ x → ∀ j ∈ y.idx, j ≠ i := fun y hy hne j hj e => hne (S.dj y (hEA y hy) x (hEA x hx) j hj (by rw [e]; exact hi))
  have hhw : ∀ y ∈ E, y ≠ x → (Halfway (lst.setIfInBounds i true) y ↔ Halfway lst y) := fun y hy hne => by
    have h1 : Ls (lst.setIfInBounds i true) y.i ↔ Ls lst y.i := by rw [hset]; exact ⟨fun h => h.resolve_left (hother y hy hne _ (by simp [It.idx])), .inr⟩
    have h2 : ∀ j ∈ y.js, (Ls (lst.setIfInBounds i true) j ↔ Ls lst j) := fun j hj => by rw [hset]; exact ⟨fun h => h.resolve_left (hother y hy hne _ (by simp [It.idx, hj])), .inr⟩
    unfold Halfway
    rw [h1]
    constructor
    · rintro ⟨g, j, hj, hn⟩; exact ⟨g, j, hj, by rwa [h2 j hj] at hn⟩
    · rintro ⟨g, j, hj, hn⟩; exact ⟨g, j, hj, by rwa [h2 j hj]⟩
  refine ⟨hst, by rw [hsz]; exact I.size, by rw [hsz]; exact I.sz, by rw [hdf]; exact I.df, by rw [Array.size_setIfInBounds]; exact I.lsz, closed_set I.closed I.lsz hr, hon, ?_, ?_, ?_, I.low, I.apart, ?_⟩
  · intro y hy hyl
    have hyl' : ¬ Ls lst y.i := fun e => hyl ((hset _).2 (.inr e))
    have hyx : y ≠ x := by
      rintro rfl
      rcases List.mem_cons.1 hi with e | e
      · exact hyl ((hset _).2 (.inl e.symm))
      · exact hyl' (ready_before I.closed hr (S.hb y (hEA y hy) i e))
    cases I.pend y hy hyl' with
    | still v h1 h2 h3 => exact .still v h1 h2 h3
    | new v h1 h2 vs b B h3 h4 h5 h6 h7 h8 =>
      refine .new v h1 h2 vs b B h3 h4 ?_ h6 h7 h8
      rcases hμ b h7 h5 with hn | hn
      · exact hn
      · exfalso
        obtain ⟨g1, g2, d, u, g3, g4, g5⟩ := hn
        obtain ⟨d', hyd⟩ := S.nd y (hEA y hy) (newOf_new h4)
        exact hyx (I.apart y hy x hx b ⟨newOf_new h4, h2, d', v, hyd, h1 d' hyd, newOf_blk h4⟩ ⟨g1, g2, d, u, g3, g4, g5⟩)
  · intro y hy hyh
    by_cases hyx : y = x
    · subst hyx; exact hhalf hyh
    · have hyh' := (hhw y hy hyx).1 hyh
      cases I.half y hy hyh' with
      | mk t vs l b rb es ck l' hd hT hg he hn hps hm h0' h1 hb ht hw hlow hown hz hel hp =>
        obtain ⟨q1, q2, q3⟩ := hheap y hy hyx hyh' t rb es ck hd ht hw hown hz
        refine .mk t vs l b rb es ck l' hd hT hg he hn hps ?_ h0' h1 hb (by rw [hoth y hy hyx t hd]; exact ht) (by rw [q1]; exact hw) hlow q2 q3 (EL.mono hle hel) ?_
        · rcases hμ b h1 hm with hn' | hn'
          · exact hn'
          · exact absurd (I.apart y hy x hx b ⟨newOf_new hn, hg, pos t, .m b, hd, hT, rfl⟩ hn') hyx
        · rw [sel_congr (lst := lst) (fun j hj => getD_set_ne false (fun e => hother y hy hyx j (by simp [It.idx, hj]) e.symm))]; exact hp
  · intro y hy; exact (hset _).2 (.inr (I.hd y hy))
  · intro y hy z hz hyh hzh t t' rb hyd hzd hyt hzt
    by_cases hyx : y = x
    · subst hyx
      by_cases hzx : z = y
      · exact hzx.symm
      · rw [hoth z hz hzx t' hzd] at hzt
        exact absurd hzt (halone z hz hzx hyh ((hhw z hz hzx).1 hzh) t t' rb hyd hzd hyt)
    · rw [hoth y hy hyx t hyd] at hyt
      by_cases hzx : z = x
      · subst hzx
        exact absurd hyt (halone y hy hyx hzh ((hhw y hy hyx).1 hyh) t' t rb hzd hyd hzt)
      · rw [hoth z hz hzx t' hzd] at hzt
        exact I.alone y hy z hz ((hhw y hy hyx).1 hyh) ((hhw z hz hzx).1 hzh) t t' rb hyd hzd hyt hzt
end
end Go.AR
namespace Go.AR
section
variable {L : LoopOk} {Γ0 : G} {h0 : Tr Blk} {nx0 : Pos} {w0 : World} {a0 : Act} {ops : Array Oper} {n m : Nat} {E Hd All : List It} {lst : Array Bool} {Γ Γ' : G} {T : Tr AV} {h h' : Tr Blk} {nx nx' : Pos} {a a' : Act} {w w' : World}
  {P : Program} {cs : List Op} {x : It} {i : Nat} {F : Fence} {o : Oper}
theorem zeta_map (hr : R L Γ h nx w) {rb : Nat} {es : Array MapEntry} {ck : Nat} (hw : w.heap[rb]? = some (.map es ck)) : (∀ k, Γ.ζ k rb = none) := by
  intro k
  cases hz : Γ.ζ k rb with
  | none => rfl
  | some ob =>
    have h1 := hr.zone k rb ob hz
    obtain ⟨C, t, rfl⟩ := hr.zcells k rb ob hz
    rw [hw] at h1; cases h1
theorem R.grow (hr : R L Γ h nx w) (ob : Obj) : R L Γ h nx (w.alloc ob) := by
  refine ⟨?_, ?_, hr.inj, ?_, hr.zfree, hr.zcells, hr.base⟩
  · intro b e he
    obtain ⟨B, hB, hd⟩ := hr.blk b e he
    refine ⟨B, hB, hd.imp id fun ⟨o, ho, hrel⟩ => ⟨o, ?_, hrel⟩⟩
    rw [heap_alloc_lt ob (lt_of_heap ho)]; exact ho
  · intro b e he
    obtain ⟨h1, h2⟩ := hr.lt b e he
    exact ⟨h1, by have : (w.alloc ob).heap.size = w.heap.size + 1 := by simp
                  omega⟩
  · intro k r o ho
    have := hr.zone k r o ho
    rw [heap_alloc_lt ob (lt_of_heap this)]; exact this
theorem St.grow (s : St L Γ0 h0 nx0 w0 Γ h nx w) (ob : Obj) : St L Γ0 h0 nx0 w0 Γ h nx (w.alloc ob) :=
  ⟨s.le, s.rel.grow ob, s.os, s.tape, s.output, by have : (w.alloc ob).heap.size = w.heap.size + 1 := by simp
                                                   have := s.size; omega,
    fun r hlt ho => by rw [heap_alloc_lt ob (Nat.lt_of_lt_of_le hlt s.size)]; exact s.keep r hlt ho, s.fresh, s.dead, s.still, s.nx, s.zfresh⟩
theorem R.join (hL : LMono L) (hr : R L Γ h nx w) {b : Pos} (hb : Γ.μ b = none) (hlt : b.num < nx.num) {B : Blk} (hg : h.get b = some B) (hd : B ≠ .dead) {e : Ext} {ob : Obj} (ho : w.heap[e.rb]? = some ob)
    (hrel : BlkRel L (Γ.add b e) e B ob) (hown : ¬ Owned Γ h e.rb) (hz : (∀ k, Γ.ζ k e.rb = none)) : R L (Γ.add b e) h nx w := by
  have hnew : ∀ x f, (Γ.add b e).μ x = some f → (x = b ∧ f = e) ∨ (x ≠ b ∧ Γ.μ x = some f) := fun x f hx => by
    by_cases hxn : x = b
    · subst hxn; rw [G.add_same] at hx; cases hx; exact .inl ⟨rfl, rfl⟩
    · rw [G.add_other e hxn] at hx; exact .inr ⟨hxn, hx⟩
  refine ⟨?_, ?_, ?_, hr.zone, ?_, hr.zcells, hr.base⟩
  · intro x f hx
    rcases hnew x f hx with ⟨rfl, rfl⟩ | ⟨_, hx⟩
    · exact ⟨B, hg, .inr ⟨ob, ho, hrel⟩⟩
    · obtain ⟨B', hB', hd'⟩ := hr.blk x f hx
      exact ⟨B', hB', hd'.imp id fun ⟨o', h1, h2⟩ => ⟨o', h1, h2.mono hL (G.le_add e hb)⟩⟩
  · intro x f hx
    rcases hnew x f hx with ⟨rfl, rfl⟩ | ⟨_, hx⟩
    · exact ⟨hlt, lt_of_heap ho⟩
    · exact hr.lt x f hx
  · intro x f y g hx hy hax hay heq
    rcases hnew x f hx with ⟨h1, h2⟩ | ⟨_, h1⟩ <;> rcases hnew y g hy with ⟨h3, h4⟩ | ⟨_, h3⟩
    · rw [h1, h3]
    · exact absurd ⟨y, g, h3, by rw [← heq, h2], hay⟩ hown
    · exact absurd ⟨x, f, h1, by rw [heq, h4], hax⟩ hown
    · exact hr.inj x f y g h1 h3 hax hay heq
  · intro x f hx hax
    rcases hnew x f hx with ⟨rfl, rfl⟩ | ⟨_, hx⟩
    · exact hz
    · exact hr.zfree x f hx hax
theorem St.join (hL : LMono L) (s : St L Γ0 h0 nx0 w0 Γ h nx w) {b : Pos} (hb : Γ.μ b = none) (h1 : nx0.num ≤ b.num) (hlt : b.num < nx.num) {B : Blk} (hg : h.get b = some B) (hd : B ≠ .dead) {e : Ext} {ob : Obj} (ho : w.heap[e.rb]? = some ob)
    (hrel : BlkRel L (Γ.add b e) e B ob) (hown : ¬ Owned Γ h e.rb) (hz : (∀ k, Γ.ζ k e.rb = none)) (hlow : w0.heap.size ≤ e.rb) : St L Γ0 h0 nx0 w0 (Γ.add b e) h nx w := by
  refine ⟨G.le.trans s.le (G.le_add e hb), s.rel.join hL hb hlt hg hd ho hrel hown hz, s.os, s.tape, s.output, s.size, s.keep, ?_, s.dead, s.still, s.nx, s.zfresh⟩
  intro x f hx hx'
  by_cases hxb : x = b
  · subst hxb; rw [G.add_same] at hx'; cases hx'; exact ⟨h1, .inl hlow⟩
  · rw [G.add_other e hxb] at hx'; exact s.fresh x f hx hx'
theorem reads_on (S : Stat P n ops cs All) (hc : Closed ops lst) (hA : ∀ y ∈ E ++ Hd, y ∈ All) (hEv : ∀ y ∈ E, y.hv = false) (hHd : ∀ y ∈ Hd, Ls lst y.i) (hr : i ∈ Region.ready .any ops lst) {o : Op} (ho : cs[i]? = some o) {p : Pos} (hp : reads o p) (hno : ∀ y ∈ All, i ∈ y.js → y.o.d ≠ some p) : On (E ++ Hd) lst p := by
  intro y hy hyd j hj
  rcases S.rd i o ho p hp y (hA y hy) hyd with h | ⟨h, _⟩ | ⟨h1, h2⟩
  · exact ready_before hc hr (h j hj)
  · exact absurd hyd (hno y (hA y hy) h)
  · rcases List.mem_append.1 hy with hy | hy
    · rw [hEv y hy] at h1; cases h1
    · exact absurd (hc _ _ h2 (hHd y hy)) (not_ls (mem_ready.1 hr).1)
theorem on_step (S : Stat P n ops cs All) (hA : ∀ y ∈ E ++ Hd, y ∈ All) (I : Inv L Γ0 h0 nx0 w0 a0 ops n E Hd lst Γ T h nx a w) (hxA : x ∈ All) (hi : i ∈ x.idx) (hr : i ∈ Region.ready .any ops lst) (hle : Γ.le Γ')
    (h1 : ∀ t u, t < n → x.o.d = some (pos t) → On (E ++ Hd) (lst.setIfInBounds i true) (pos t) → T.get (pos t) = some u → ∃ y, a'.tmps[t]? = some y ∧ V Γ' u y)
    (h2 : ∀ t, x.o.d ≠ some (pos t) → a'.tmps[t]? = a.tmps[t]?) : TRon Γ' n T a'.tmps (On (E ++ Hd) (lst.setIfInBounds i true)) := by
  have hin : i < lst.size := by rw [I.lsz]; exact ready_lt hr
  intro t u hlt ho hu
  by_cases hxd : x.o.d = some (pos t)
  · exact h1 t u hlt hxd ho hu
  · rw [h2 t hxd]
    have : On (E ++ Hd) lst (pos t) := fun y hy hyd j hj => by
      have := ho y hy hyd j hj
      rw [ls_set hin] at this
      rcases this with rfl | h
      · have := S.dj y (hA y hy) x hxA j hj hi
        rw [this] at hyd; exact absurd hyd hxd
      · exact h
    obtain ⟨y, g1, g2⟩ := I.on t u hlt this hu
    exact ⟨y, g1, g2.mono hle⟩
theorem op_core {ops : Array Oper} {i : Nat} (hi : ops[i]? = some o) (hF : Wide F) (hnd : ∀ c, o.op ≠ .defer c) (hw : Region.wanted o (yielded ops a.tmps) = true) {K' : Value → World → Prop}
    (hu : Ups F m P K' ((execOp a.eval o).run P w)) {Q : Exit → Act → World → Prop} {K : Act → World → Prop} (hK : ∀ v' w', K' v' w' → K (a.put o.dst v') w') : wpOpIn F m P ops Q i K a w := by
  unfold wpOpIn
  simp only [hi, hw, if_true]
  refine ⟨fun f _ => hF.fn f, ?_⟩
  rw [Oper.semAt_eq F.round a.eval o hnd]
  revert hu
  generalize (execOp a.eval o).run P w = r
  intro hu
  unfold Ups at hu
  split at hu
  · exact hK _ _ hu
  · exact hK _ _ hu
  · refine ⟨fun hd => (by rw [hF.depth] at hd; cases hd), CallsIn.mono hu ?_⟩
    rintro e w'' ⟨v', rfl, hv⟩
    exact hK _ _ hv
  · refine ⟨fun hd => (by rw [hF.depth] at hd; cases hd), RoundIn.mono hu ?_⟩
    rintro e w'' ⟨v', rfl, hv⟩
    exact hK _ _ hv
  · cases hu
theorem noCall_ok : CallOk F m P L noCall := fun Γ h nx w f fv vs args v h' nx' _ _ _ hx => by cases hx
theorem put_get {d : Option Tmp} {d' : Option Pos} (hd : compD n d = some d') {v' : Value} {t : Nat} (ht : d' ≠ some (pos t)) : (a.put d v').tmps[t]? = a.tmps[t]? := by
  cases d with
  | none => rfl
  | some q =>
    simp only [compD] at hd
    split at hd
    · cases hd
      show (a.tmps.setIfInBounds q v')[t]? = _
      rw [Array.getElem?_setIfInBounds_ne (fun e => ht (by rw [e]))]
    · cases hd
theorem put_get_same {d : Option Tmp} {t : Nat} (hd : compD n d = some (some (pos t))) {v' : Value} (hs : n ≤ a.tmps.size) : (a.put d v').tmps[t]? = some v' := by
  cases d with
  | none => cases hd
  | some q =>
    simp only [compD] at hd
    split at hd
    · rename_i hq
      simp only [Option.some.injEq] at hd
      have := pos_inj hd; subst this
      show (a.tmps.setIfInBounds q v')[q]? = _
      exact Array.getElem?_setIfInBounds_self_of_lt (Nat.lt_of_lt_of_le hq hs)
    · cases hd
end
end Go.AR
namespace Go.AR
section
variable {L : LoopOk} {Γ0 : G} {h0 : Tr Blk} {nx0 : Pos} {w0 : World} {a0 : Act} {ops : Array Oper} {n m : Nat} {E Hd All : List It} {lst : Array Bool} {Γ Γ' : G} {T : Tr AV} {h h' : Tr Blk} {nx nx' : Pos} {a a' : Act} {w w' : World}
  {P : Program} {cs : List Op} {x : It} {i : Nat} {F : Fence} {o : Oper}
theorem comp_at (S : Stat P n ops cs All) (hi : i < ops.size) : ∃ o ao, ops[i]? = some o ∧ cs[i]? = some ao ∧ compOper P n ops o = some ao := by
  have h1 : ops[i]? = some ops[i] := Array.getElem?_eq_getElem hi
  obtain ⟨ao, h2, h3⟩ := allO_get S.co i ops[i] (by rw [Array.getElem?_toList]; exact h1)
  exact ⟨_, ao, h1, h2, h3⟩
theorem comp_nodefer {ao : Op} (hc : compOper P n ops o = some ao) : ∀ c, o.op ≠ .defer c := by
  obtain ⟨xs, h1, _, _, _⟩ := compOper_inv hc
  intro c e; rw [e] at h1; simp [compO] at h1
theorem not_owned_new (hr : R L Γ h nx w) : ¬ Owned Γ h w.heap.size := by
  rintro ⟨b, e, he, h1, _⟩
  have := (hr.lt b e he).2
  omega
theorem zeta_new (hr : R L Γ h nx w) : (∀ k, Γ.ζ k w.heap.size = none) := by
  intro k
  cases hz : Γ.ζ k w.heap.size with
  | none => rfl
  | some ob => have := lt_of_heap (hr.zone _ _ _ hz); omega
theorem step_one (hF : Wide F) (hL : LMono L) (S : Stat P n ops cs All) (hA : ∀ y ∈ E ++ Hd, y ∈ All) (hEv : ∀ y ∈ E, y.hv = false) (hr0 : R L Γ0 h0 nx0 w0) (I : Inv L Γ0 h0 nx0 w0 a0 ops n E Hd lst Γ T h nx a w) (hx : x ∈ E) (hjs : x.js = []) (hcx : cs[x.i]? = some x.o)
    (hr : x.i ∈ Region.ready .any ops lst) {Q : Exit → Act → World → Prop} {K : Act → World → Prop}
    (hK : ∀ Γ' a' w', Inv L Γ0 h0 nx0 w0 a0 ops n E Hd (lst.setIfInBounds x.i true) Γ' T h nx a' w' → K a' w') : wpOpIn F m P ops Q x.i K a w := by
  have hEA : ∀ y ∈ E, y ∈ All := fun y hy => hA y (by simp [hy])
  have hxA := hEA x hx
  obtain ⟨o, ao, hi, h2, hco⟩ := comp_at S (ready_lt hr)
  rw [hcx] at h2; cases h2
  have hunl : ¬ Ls lst x.i := not_ls (mem_ready.1 hr).1
  have hxi : x.i ∈ x.idx := by simp [It.idx]
  have hrd : TRon Γ n T a.tmps (reads x.o) := fun t u hlt hp hu => I.on t u hlt (reads_on S I.closed hA hEv I.hd hr hcx hp (fun y hy hj => by
    have := S.dj y hy x hxA x.i (by simp [It.idx, hj]) hxi
    subst this; rw [hjs] at hj; cases hj)) hu
  obtain ⟨xs, c1, c2, c3, c4⟩ := compOper_inv hco
  have noHalf : ∀ l, ¬ Halfway l x := by rintro l ⟨_, j, hj, _⟩; rw [hjs] at hj; cases hj
  have fin : ∀ (Γ' : G) (v' : Value) (w' : World) (v : AV), St L Γ0 h0 nx0 w0 Γ' h nx w' → Γ.le Γ' → V Γ' v v' → (∀ d, x.o.d = some d → T.get d = some v) →
      (∀ b, b.num < nx.num → Γ.μ b = none → Γ'.μ b = none ∨ NewAt T x b) →
      (∀ rb es ck, w.heap[rb]? = some (.map es ck) → ¬ Owned Γ h rb → w'.heap[rb]? = w.heap[rb]? ∧ ¬ Owned Γ' h rb) → K (a.put o.dst v') w' := by
    intro Γ' v' w' v hst hle hV hd hμ hheap
    refine hK Γ' _ w' (I.light S hEA hx hxi hr hst hle (put_size _ _ _) (put_defers _ _ _) hμ ?_ ?_ ?_ (fun hh => absurd hh (noHalf _)) (fun y _ _ hh => absurd hh (noHalf _)))
    · intro y hy hyx t hyd
      exact put_get c2 (fun e => hyx (S.dd y (hEA y hy) x hxA _ hyd e))
    · intro y hy hyx hyh t rb es ck hyd ht hw hown hz
      obtain ⟨q1, q2⟩ := hheap rb es ck hw hown
      exact ⟨q1, q2, zeta_map hst.rel (by rw [q1]; exact hw)⟩
    · refine on_step S hA I hxA hxi hr hle ?_ (fun t ht => put_get c2 ht)
      intro t u hlt hxd _ hu
      rw [hd _ hxd] at hu; cases hu
      exact ⟨v', put_get_same (by rw [c2, hxd]) I.size, hV⟩
  cases I.pend x hx hunl with
  | still v hd hxx hc =>
    refine op_step hi hco hF hL noCall_ok I.st.rel hrd hxx fun Γ' v' w' s hV => ?_
    refine fin Γ' v' w' v (St.trans hr0 I.st s) s.le hV hd ?_ ?_
    · intro b hb hm
      left
      cases hb' : Γ'.μ b with
      | none => rfl
      | some e => have := (s.fresh b e hm hb').1; omega
    · intro rb es ck hw hown
      have hlt := lt_of_heap hw
      refine ⟨s.keep rb hlt hown, fun ho => ?_⟩
      rcases Owned.back I.st.rel s ho with h | h
      · exact hown h
      · omega
  | new v hd hw vs b B he hn hm h1 h2 hb =>
    have hv : VL Γ vs (xs.map a.eval) := evs_eval c4 he fun t u hlt ho => hrd t u hlt (.inl ho)
    obtain ⟨e, ob, v', hrun, heb, hBd, hrel, hV⟩ := late_run (L := L) hm hn c1 hv w
    refine op_core hi hF (comp_nodefer hco) (want_run (o := o) c3 hw (fun t u hlt ho => hrd t u hlt (.inr ho))) (K' := fun u w' => u = v' ∧ w' = w.alloc ob) (by rw [hrun]; exact ⟨rfl, rfl⟩) ?_
    rintro u w2 ⟨hu, hw2⟩
    rw [hu, hw2]
    have hown : ¬ Owned Γ h e.rb := by rw [heb]; exact not_owned_new I.st.rel
    have hz : (∀ k, Γ.ζ k e.rb = none) := by rw [heb]; exact zeta_new I.st.rel
    have hst := (I.st.grow ob).join hL hm h1 h2 hb hBd (e := e) (ob := ob) (by rw [heb]; exact heap_alloc_new ob) hrel hown hz (by rw [heb]; exact I.st.size)
    refine fin (Γ.add b e) v' (w.alloc ob) v hst (G.le_add e hm) hV hd ?_ ?_
    · intro b' hb' hm'
      by_cases hbb : b' = b
      · subst hbb
        right
        obtain ⟨d, hxd⟩ := S.nd x hxA (newOf_new hn)
        exact ⟨newOf_new hn, hw, d, v, hxd, hd d hxd, newOf_blk hn⟩
      · left; rw [G.add_other e hbb]; exact hm'
    · intro rb es ck hw' hown'
      have hlt := lt_of_heap hw'
      refine ⟨heap_alloc_lt ob hlt, ?_⟩
      rintro ⟨b', e', he', h3, h4⟩
      by_cases hbb : b' = b
      · subst hbb; rw [G.add_same] at he'; cases he'; omega
      · rw [G.add_other e hbb] at he'; exact hown' ⟨b', e', he', h3, h4⟩
end
end Go.AR
namespace Go.AR
section
variable {L : LoopOk} {Γ0 : G} {h0 : Tr Blk} {nx0 : Pos} {w0 : World} {a0 : Act} {ops : Array Oper} {n m : Nat} {E Hd All : List It} {lst : Array Bool} {Γ Γ' : G} {T : Tr AV} {h h' : Tr Blk} {nx nx' : Pos} {a a' : Act} {w w' : World}
  {P : Program} {cs : List Op} {x : It} {i : Nat} {F : Fence} {o : Oper}
theorem St.set (s : St L Γ0 h0 nx0 w0 Γ h nx w) {rb : Nat} {ob : Obj} (hown : ¬ Owned Γ h rb) (hz : (∀ k, Γ.ζ k rb = none)) (hlow : w0.heap.size ≤ rb) : St L Γ0 h0 nx0 w0 Γ h nx { w with heap := w.heap.setIfInBounds rb ob } := by
  have hne : ∀ r, r ≠ rb → (w.heap.setIfInBounds rb ob)[r]? = w.heap[r]? := fun r hr => Array.getElem?_setIfInBounds_ne (Ne.symm hr)
  refine ⟨s.le, ⟨?_, ?_, s.rel.inj, ?_, s.rel.zfree, s.rel.zcells, s.rel.base⟩, s.os, s.tape, s.output, by simpa using s.size, ?_, s.fresh, s.dead, s.still, s.nx, s.zfresh⟩
  · intro b e he
    obtain ⟨B, hB, hd⟩ := s.rel.blk b e he
    refine ⟨B, hB, ?_⟩
    by_cases hdd : B = .dead
    · exact .inl hdd
    · refine hd.imp id fun ⟨o, h1, h2⟩ => ⟨o, ?_, h2⟩
      show (w.heap.setIfInBounds rb ob)[e.rb]? = _
      rw [hne]; exact h1
      intro heq
      exact hown ⟨b, e, he, heq, B, hB, hdd⟩
  · intro b e he; obtain ⟨h1, h2⟩ := s.rel.lt b e he; exact ⟨h1, by simpa using h2⟩
  · intro k r o ho
    show (w.heap.setIfInBounds rb ob)[r]? = _
    rw [hne]; exact s.rel.zone k r o ho
    intro heq; rw [heq, hz] at ho; cases ho
  · intro r hlt ho
    show (w.heap.setIfInBounds rb ob)[r]? = _
    rw [hne r (by omega)]; exact s.keep r hlt ho
theorem flat_pairs : ∀ {kvs : List (X × X)} {vs : List AV} {l : List (AV × AV)}, evs T (kvs.flatMap fun kv => [kv.1, kv.2]) = some vs → pairs vs = some l →
    l.length = kvs.length ∧ ∀ (q : Nat) (kv : X × X), kvs[q]? = some kv → ∃ k v, l[q]? = some (k, v) ∧ ev T kv.1 = some k ∧ ev T kv.2 = some v
  | [], vs, l, he, hp => by cases he; cases hp; exact ⟨rfl, fun q kv h => by simp at h⟩
  | kv :: kvs, vs, l, he, hp => by
    have he : (Option.casesOn (ev T kv.1) none (fun v => Option.casesOn (Option.casesOn (ev T kv.2) none (fun v => Option.casesOn (evs T (kvs.flatMap fun kv => [kv.1, kv.2])) none (fun r => some (v :: r))) : Option (List AV)) none (fun r => some (v :: r))) : Option (List AV)) = some vs := he
    cases h1 : ev T kv.1 with
    | none => rw [h1] at he; cases he
    | some k =>
      cases h2 : ev T kv.2 with
      | none => rw [h1, h2] at he; cases he
      | some v =>
        cases h3 : evs T (kvs.flatMap fun kv => [kv.1, kv.2]) with
        | none => rw [h1, h2, h3] at he; cases he
        | some r =>
          rw [h1, h2, h3] at he; cases he
          unfold pairs at hp
          cases h4 : pairs r with
          | none => simp [h4] at hp
          | some l' =>
            simp only [h4, Option.some.injEq] at hp; subst hp
            obtain ⟨g1, g2⟩ := flat_pairs h3 h4
            refine ⟨by simp [g1], fun q kv' hq => ?_⟩
            cases q with
            | zero => simp at hq; subst hq; exact ⟨k, v, rfl, h1, h2⟩
            | succ q => simp at hq; simpa using g2 q kv' hq
theorem apart1_get {m : Nat} {e : EK} {k : AV} : ∀ {l : List (AV × AV)}, apart1 m e k l = true → ∀ x ∈ l, cmpV m e k x.1 = some false ∧ cmpV m e x.1 k = some false
  | [], _, x, hx => by cases hx
  | y :: l, ha, x, hx => by
    unfold apart1 at ha
    split at ha
    · rename_i h1 h2
      cases hx with
      | head => exact ⟨h1, h2⟩
      | tail _ hx => exact apart1_get ha x hx
    · cases ha
theorem apart_get {m : Nat} {e : EK} : ∀ {l : List (AV × AV)}, apartL m e l = true → ∀ (q : Nat) (x : AV × AV), l[q]? = some x → keyOk m x.1 = true ∧ ∀ (q' : Nat) (y : AV × AV), q' ≠ q → l[q']? = some y → cmpV m e x.1 y.1 = some false
  | [], _, q, x, hx => by simp at hx
  | z :: l, ha, q, x, hx => by
    unfold apartL at ha
    cases h1 : keyOk m z.1 with
    | false => simp [h1] at ha
    | true =>
      cases h2 : apart1 m e z.1 l with
      | false => simp [h1, h2] at ha
      | true =>
        simp only [h1, h2, cond_true] at ha
        cases q with
        | zero =>
          simp at hx; subst hx
          refine ⟨h1, fun q' y hq hy => ?_⟩
          cases q' with
          | zero => exact absurd rfl hq
          | succ q' => simp at hy; exact (apart1_get h2 y (List.mem_of_getElem? hy)).1
        | succ q =>
          simp at hx
          obtain ⟨g1, g2⟩ := apart_get ha q x hx
          refine ⟨g1, fun q' y hq hy => ?_⟩
          cases q' with
          | zero => simp at hy; subst hy; exact (apart1_get h2 x (List.mem_of_getElem? hx)).2
          | succ q' => simp at hy; exact g2 q' y (by omega) hy
theorem sel_mem {lst : Array Bool} : ∀ {l : List (AV × AV)} {js : List Nat} {x : AV × AV}, x ∈ sel lst l js → ∃ (q : Nat) (j : Nat), l[q]? = some x ∧ js[q]? = some j ∧ lst.getD j false = true
  | [], _, x, hx => by simp [sel] at hx
  | _ :: _, [], x, hx => by simp [sel] at hx
  | y :: l, j :: js, x, hx => by
    unfold sel at hx
    split at hx
    · rename_i hj
      cases hx with
      | head => exact ⟨0, j, rfl, rfl, hj⟩
      | tail _ hx => obtain ⟨q, j', h1, h2, h3⟩ := sel_mem hx; exact ⟨q + 1, j', by simpa using h1, by simpa using h2, h3⟩
    · obtain ⟨q, j', h1, h2, h3⟩ := sel_mem hx; exact ⟨q + 1, j', by simpa using h1, by simpa using h2, h3⟩
theorem findE_of {m : Nat} {e : EK} {k : AV} : ∀ {l : List (AV × AV)}, (∀ x ∈ l, cmpV m e k x.1 = some false) → findE m e k l = some none
  | [], _ => rfl
  | y :: l, hl => by unfold findE; rw [hl y (by simp), findE_of (fun x hx => hl x (by simp [hx]))]
theorem step_head (hF : Wide F) (hL : LMono L) (S : Stat P n ops cs All) (hA : ∀ y ∈ E ++ Hd, y ∈ All) (I : Inv L Γ0 h0 nx0 w0 a0 ops n E Hd lst Γ T h nx a w) (hx : x ∈ E) {d : Pos} {mm : Nat} {ek : EK} {asx : List X}
    (hxo : x.o = ⟨some d, none, .mapl mm ek, asx⟩) (hcx : cs[x.i]? = some (⟨some d, none, .mkmap, []⟩ : Op)) (hnd : (x.i :: x.js).Nodup) (hne : x.js ≠ [])
    (hr : x.i ∈ Region.ready .any ops lst) {Q : Exit → Act → World → Prop} {K : Act → World → Prop}
    (hK : ∀ Γ' a' w', Inv L Γ0 h0 nx0 w0 a0 ops n E Hd (lst.setIfInBounds x.i true) Γ' T h nx a' w' → K a' w') : wpOpIn F m P ops Q x.i K a w := by
  have hEA : ∀ y ∈ E, y ∈ All := fun y hy => hA y (by simp [hy])
  have hxA := hEA x hx
  obtain ⟨o, ao, hi, h2, hco⟩ := comp_at S (ready_lt hr)
  rw [hcx] at h2; cases h2
  have hunl : ¬ Ls lst x.i := not_ls (mem_ready.1 hr).1
  have hin : x.i < lst.size := by rw [I.lsz]; exact ready_lt hr
  have hxi : x.i ∈ x.idx := by simp [It.idx]
  obtain ⟨xs, c1, c2, c3, c4⟩ := compOper_inv hco
  have c2 : compD n o.dst = some (some d) := c2
  have hxs : xs = [] := by
    cases xs with
    | nil => rfl
    | cons y ys => have := allO_length c4; simp at this
  subst hxs
  have hjun : ∀ j ∈ x.js, lst.getD j false = false ∧ j ≠ x.i := fun j hj => by
    constructor
    · cases hq : lst.getD j false with
      | false => rfl
      | true => exact absurd (I.closed x.i j (S.hb x hxA j hj) hq) hunl
    · rintro rfl; exact (List.nodup_cons.1 hnd).1 hj
  cases I.pend x hx hunl with
  | still v hd hxx hc =>
    exfalso
    rw [hxo] at hc
    rcases hc with hc | hc
    · cases hc
    · cases hc
  | new v hd hw vs b B he hn hm h1 h2 hb =>
    have hn' := hn
    rw [hxo] at hn'
    simp only [newOf] at hn'
    split at hn'
    · rename_i l hl
      cases hap : apartL mm ek l with
      | false => simp [hap] at hn'
      | true =>
        simp only [hap, cond_true, Option.some.injEq, Prod.mk.injEq] at hn'
        obtain ⟨rfl, rfl⟩ := hn'
        obtain ⟨e, ob, v', hrun, heb, hBd, hrel, hV⟩ := late_run (L := L) (P := P) (c := .mkmap) (vs := []) (v := .m b) (B := .map []) hm rfl c1 (ρ := a.eval) .nil w
        have hv' : v' = .map (some w.heap.size) := by
          cases hV with | m _ e' he' =>
          rw [G.add_same] at he'; cases he'
          rw [heb]
        have hob : ∃ ck, ob = .map #[] ck := by
          cases hrel with | map _ es ck hmr =>
          obtain ⟨l', hp, hel⟩ := hmr
          have : l' = [] := List.perm_nil.1 hp
          subst this
          have hes : es.toList = [] := by generalize es.toList = q at hel; cases hel; rfl
          exact ⟨ck, by rw [show es = #[] from by rw [← Array.toArray_toList (xs := es), hes]]⟩
        obtain ⟨ck, rfl⟩ := hob
        refine op_core hi hF (comp_nodefer hco) (want_run (Γ := Γ) (o := o) (T := T) c3 (q := true) rfl (fun t u _ ho => by obtain ⟨b, hb⟩ := ho; cases hb)) (K' := fun u w' => u = v' ∧ w' = w.alloc (.map #[] ck)) (by rw [hrun]; exact ⟨rfl, rfl⟩) ?_
        rintro u w2 ⟨hu, hw2⟩
        rw [hu, hw2]
        have hxd : x.o.d = some d := by rw [hxo]
        obtain ⟨t, htn, hdt⟩ : ∃ t, t < n ∧ d = pos t := by
          cases hod : o.dst with
          | none => rw [hod] at c2; cases c2
          | some t => rw [hod] at c2; simp only [compD] at c2; split at c2; (rename_i hlt; cases c2; exact ⟨t, hlt, rfl⟩); cases c2
        have hheapN : (w.alloc (.map #[] ck)).heap[w.heap.size]? = some (.map #[] ck) := heap_alloc_new _
        have htm : (a.put o.dst v').tmps[t]? = some (.map (some w.heap.size)) := by rw [put_get_same (by rw [c2, hdt]) I.size, hv']
        refine hK Γ _ _ (I.light S hEA hx hxi hr (I.st.grow _) (.refl _) (put_size _ _ _) (put_defers _ _ _) (fun b _ hb => .inl hb) ?_ ?_ ?_ ?_ ?_)
        · intro y hy hyx t' hyd
          exact put_get c2 (fun e => hyx (S.dd y (hEA y hy) x hxA _ hyd (by rw [hxd, e])))
        · intro y hy hyx hyh t' rb es ck' hyd ht hw' hown hz
          exact ⟨heap_alloc_lt _ (lt_of_heap hw'), hown, hz⟩
        · refine on_step S hA I hxA hxi hr (.refl _) ?_ (fun t' ht => put_get c2 (fun e => ht (by rw [hxd, e])))
          intro t' u hlt hxd' ho hu
          exfalso
          cases hjs : x.js with
          | nil => exact hne hjs
          | cons j js =>
            have hj : j ∈ x.js := by rw [hjs]; simp
            have := ho x (by simp [hx]) hxd' j (by simp [It.idx, hj])
            rw [ls_set hin] at this
            obtain ⟨g1, g2⟩ := hjun j hj
            rcases this with h | h
            · exact g2 h
            · unfold Ls at h; rw [g1] at h; cases h
        · intro _
          refine .mk t vs l b w.heap.size #[] ck [] (by rw [hxd, hdt]) (by rw [← hdt]; exact hd d hxd) hw he hn hl hm h1 h2 hb htm hheapN I.st.size (not_owned_new I.st.rel) (zeta_new I.st.rel) .nil ?_
          rw [sel_none (fun j hj => by rw [getD_set_ne false (Ne.symm (hjun j hj).2)]; exact (hjun j hj).1)]
        · intro y hy hyx hhx hyh t1 t2 rb hxd1 hyd hxt hyt
          have : t1 = t := by rw [hxd, hdt] at hxd1; exact (pos_inj (Option.some.inj hxd1)).symm
          subst this
          rw [htm] at hxt; cases hxt
          cases I.half y hy hyh with
          | mk ty _ _ _ rb' _ _ _ hdy _ _ _ _ _ _ _ _ _ hty hwy _ _ _ _ _ =>
            have : ty = t2 := by rw [hdy] at hyd; exact pos_inj (Option.some.inj hyd)
            subst this
            rw [hty] at hyt; cases hyt
            have := lt_of_heap hwy
            omega
    · cases hn'
end
end Go.AR
namespace Go.AR
section
variable {L : LoopOk} {Γ0 : G} {h0 : Tr Blk} {nx0 : Pos} {w0 : World} {a0 : Act} {ops : Array Oper} {n m : Nat} {E Hd All : List It} {lst : Array Bool} {Γ Γ' : G} {T : Tr AV} {h h' : Tr Blk} {nx nx' : Pos} {a a' : Act} {w w' : World}
  {P : Program} {cs : List Op} {x : It} {i : Nat} {F : Fence} {o : Oper}
def isInsC : OC → Bool | .ins _ _ => true | _ => false
theorem compO_insert {op : Go.Op} {c : OC} {xs : List Operand} (h : compO P n op = some (c, xs)) (hc : isInsC c = true) : ∃ t mo k x, op = .insert t mo k x := by
  unfold compO at h
  split at h
  all_goals first
    | exact ⟨_, _, _, _, rfl⟩
    | (simp only [Option.some.injEq, Prod.mk.injEq] at h; obtain ⟨rfl, rfl⟩ := h; cases hc; done)
    | (repeat' split at h) <;> first | (cases h; done) | (simp only [Option.map_eq_some_iff, Option.some.injEq, Prod.mk.injEq] at h; obtain ⟨_, _, rfl, rfl⟩ := h; cases hc; done) | (simp only [Option.some.injEq, Prod.mk.injEq] at h; obtain ⟨rfl, rfl⟩ := h; cases hc; done)
theorem compO_ins {op : Go.Op} {mm : Nat} {ek : EK} {xs : List Operand} (h : compO P n op = some (.ins mm ek, xs)) : ∃ t kt e mo k x, op = .insert t mo k x ∧ P.underlying t = some (.map kt e) ∧ eqN P kt = some (mm, ek) ∧ xs = [mo, k, x] := by
  obtain ⟨t, mo, k, x, rfl⟩ := compO_insert h rfl
  simp only [compO] at h
  split at h
  · rename_i kt e hu
    simp only [Option.map_eq_some_iff] at h
    obtain ⟨q, hq, h⟩ := h
    simp only [Prod.mk.injEq, OC.ins.injEq] at h
    obtain ⟨⟨h1, h2⟩, h3⟩ := h
    exact ⟨t, kt, e, mo, k, x, rfl, hu, by rw [hq, ← h1, ← h2], h3.symm⟩
  · cases h
theorem compX_tmp {xo : Operand} {p : Pos} (hc : compX n xo = some (.t p)) : ∃ t, xo = .tmp t ∧ t < n ∧ p = pos t := by
  cases xo with
  | tmp t =>
    simp only [compX] at hc
    split at hc
    · rename_i hlt; cases hc; exact ⟨t, rfl, hlt, rfl⟩
    · cases hc
  | const v => simp only [compX, Option.map_eq_some_iff] at hc; obtain ⟨z, _, hz⟩ := hc; cases hz
  | func f => cases hc
  | global g => cases hc
theorem step_ins (hF : Wide F) (hL : LMono L) (S : Stat P n ops cs All) (hA : ∀ y ∈ E ++ Hd, y ∈ All) (hEv : ∀ y ∈ E, y.hv = false) (I : Inv L Γ0 h0 nx0 w0 a0 ops n E Hd lst Γ T h nx a w) (hx : x ∈ E) {d : Pos} {mm : Nat} {ek : EK} {kvs : List (X × X)}
    (hxo : x.o = ⟨some d, none, .mapl mm ek, kvs.flatMap fun kv => [kv.1, kv.2]⟩) (hlen : kvs.length = x.js.length) {q : Nat} {kv : X × X} (hq : x.js[q]? = some i) (hkv : kvs[q]? = some kv)
    (hci : cs[i]? = some (⟨none, none, .ins mm ek, [.t d, kv.1, kv.2]⟩ : Op)) (hk : kv.1 ≠ X.t d ∧ kv.2 ≠ X.t d) (hnd : (x.i :: x.js).Nodup)
    (hr : i ∈ Region.ready .any ops lst) {Q : Exit → Act → World → Prop} {K : Act → World → Prop}
    (hK : ∀ Γ' a' w', Inv L Γ0 h0 nx0 w0 a0 ops n E Hd (lst.setIfInBounds i true) Γ' T h nx a' w' → K a' w') : wpOpIn F m P ops Q i K a w := by
  have hEA : ∀ y ∈ E, y ∈ All := fun y hy => hA y (by simp [hy])
  have hxA := hEA x hx
  obtain ⟨o, ao, hi, h2, hco⟩ := comp_at S (ready_lt hr)
  rw [hci] at h2; cases h2
  have hunl : ¬ Ls lst i := not_ls (mem_ready.1 hr).1
  have hunl' : lst.getD i false = false := by cases hq : lst.getD i false with | false => rfl | true => exact absurd hq hunl
  have hin : i < lst.size := by rw [I.lsz]; exact ready_lt hr
  have hij : i ∈ x.js := List.mem_of_getElem? hq
  have hxi : i ∈ x.idx := by simp [It.idx, hij]
  have hxd : x.o.d = some d := by rw [hxo]
  have hhead : Ls lst x.i := ready_before I.closed hr (S.hb x hxA i hij)
  obtain ⟨xs, c1, c2, c3, c4⟩ := compOper_inv hco
  have c2 : compD n o.dst = some none := c2
  obtain ⟨t, kt, et, mo, ko, vo, hop, hu, hek, rfl⟩ := compO_ins c1
  obtain ⟨m1, r1, k1, k2⟩ : ∃ X1 r1, compX n mo = some X1 ∧ allO (compX n) [ko, vo] = some r1 ∧ X1 = .t d ∧ r1 = [kv.1, kv.2] := by
    unfold allO at c4
    split at c4
    · rename_i y r g1 g2; simp only [Option.some.injEq, List.cons.injEq] at c4; exact ⟨y, r, g1, g2, c4.1, c4.2⟩
    · cases c4
  obtain ⟨k2, k3, k4⟩ := k2
  subst k3; subst k4
  obtain ⟨tm, rfl, htn, rfl⟩ := compX_tmp k1
  cases I.half x hx ⟨hhead, i, hij, hunl⟩ with
  | mk t' vs l b rb es ck l' hd hT hg he hn hps hm g0 g1 hb ht hw hlow hown hz hel hp =>
    have htt : t' = tm := by rw [hxd] at hd; exact (pos_inj (Option.some.inj hd)).symm
    subst htt
    rw [hxo] at he hn
    obtain ⟨hll, hget⟩ := flat_pairs he hps
    obtain ⟨kA, vA, hlq, hkA, hvA⟩ := hget q kv hkv
    have hap : apartL mm ek l = true := by
      simp only [newOf, hps] at hn
      cases hap : apartL mm ek l with
      | true => rfl
      | false => simp [hap] at hn
    obtain ⟨hko, hapt⟩ := apart_get hap q (kA, vA) hlq
    have hno : ∀ p, reads (⟨none, none, .ins mm ek, [.t (pos t'), kv.1, kv.2]⟩ : Op) p → p ≠ pos t' → On (E ++ Hd) lst p := fun p hp hne =>
      reads_on S I.closed hA hEv I.hd hr hci hp (fun y hy hj => by
        have := S.dj y hy x hxA i (by simp [It.idx, hj]) hxi
        subst this; rw [hxd]; exact fun e => hne (Option.some.inj e).symm)
    have hVk : VL Γ [kA, vA] [a.eval ko, a.eval vo] := by
      have hev : evs T [kv.1, kv.2] = some [kA, vA] := by
        show (Option.casesOn (ev T kv.1) none (fun v => Option.casesOn (Option.casesOn (ev T kv.2) none (fun v => some [v]) : Option (List AV)) none (fun r => some (v :: r))) : Option (List AV)) = _
        rw [hkA, hvA]
      refine evs_eval k2 hev fun t u hlt hmem hu' => I.on t u hlt (hno (pos t) (.inl ?_) ?_) hu'
      · simp only [List.mem_cons, List.not_mem_nil, or_false] at hmem ⊢; exact .inr hmem
      · intro e
        simp only [List.mem_cons, List.not_mem_nil, or_false] at hmem
        rw [e] at hmem
        rcases hmem with h | h
        · exact hk.1 h.symm
        · exact hk.2 h.symm
    have hV1 : V Γ kA (a.eval ko) := by cases hVk with | cons h _ => exact h
    have hV2 : V Γ vA (a.eval vo) := by cases hVk with | cons _ h => cases h with | cons h _ => exact h
    have hfind : findE mm ek kA l' = some none := findE_of fun y hy => by
      obtain ⟨q', j', h1, h2, h3⟩ := sel_mem (hp.mem_iff.1 hy)
      refine hapt q' y ?_ h1
      rintro rfl
      rw [hq] at h2; cases h2
      rw [hunl'] at h3; cases h3
    have hset : setE mm ek kA vA l' = some (l' ++ [(kA, vA)]) := by unfold setE; rw [hfind]
    obtain ⟨es2, ck2, l2, hrun, hp2, hel2⟩ := upd_run (P := P) hu hek hV1 hV2 hko hset (List.Perm.refl l') hel hw
    have hmo : a.eval (.tmp t') = .map (some rb) := by show a.tmps.getD t' undef = _; rw [Array.getD_eq_getD_getElem?, ht]; rfl
    have hex : (execOp a.eval o).run P w = .ok .skip { w with heap := w.heap.setIfInBounds rb (.map es2 ck2) } := by
      simp only [execOp, hop, hmo, Sem.run_bind, hrun, Result.andThen_ok, Sem.run_pure]
    have hdst : ∀ u, a.put o.dst u = a := fun u => by
      cases hod : o.dst with
      | none => rfl
      | some t => rw [hod] at c2; simp only [compD] at c2; split at c2 <;> cases c2
    refine op_core hi hF (comp_nodefer hco) (want_run (Γ := Γ) (o := o) (T := T) c3 (q := true) rfl (fun t u _ ho => by obtain ⟨b, hb⟩ := ho; cases hb)) (K' := fun u w' => w' = { w with heap := w.heap.setIfInBounds rb (.map es2 ck2) }) (by rw [hex]; exact rfl) ?_
    rintro u w2 hw2
    rw [hdst u, hw2]
    have hheap2 : ({ w with heap := w.heap.setIfInBounds rb (.map es2 ck2) } : World).heap[rb]? = some (.map es2 ck2) := (MapKept.heap_set hw).1
    have hst2 := I.st.set (ob := .map es2 ck2) hown hz hlow
    have hsel : l2.Perm (sel (lst.setIfInBounds i true) l x.js) := by
      refine hp2.trans ?_
      refine (List.perm_append_comm.trans ?_)
      exact ((hp.cons (kA, vA))).trans (sel_set hin (List.nodup_cons.1 hnd).2 hq hlq hunl').symm
    have hother : ∀ y ∈ E, y ≠ x → Halfway lst y → ∀ t rb' es ck, y.o.d = some (pos t) → a.tmps[t]? = some (.map (some rb')) → w.heap[rb']? = some (.map es ck) → rb' ≠ rb := by
      rintro y hy hyx hyh t2 rb' es' ck' hyd hyt hyw rfl
      exact hyx (I.alone y hy x hx hyh ⟨hhead, i, hij, hunl⟩ t2 t' rb' hyd hxd hyt ht)
    have hne : ∀ rb', rb' ≠ rb → ({ w with heap := w.heap.setIfInBounds rb (.map es2 ck2) } : World).heap[rb']? = w.heap[rb']? := (MapKept.heap_set hw).2
    by_cases hall : ∀ j ∈ x.js, Ls (lst.setIfInBounds i true) j
    ·
      have hlsel : sel (lst.setIfInBounds i true) l x.js = l := sel_all (by rw [hll, hlen]) hall
      rw [hlsel] at hsel
      have hrel : BlkRel L (Γ.add b ⟨rb, 0, 0, 0, 0⟩) ⟨rb, 0, 0, 0, 0⟩ (.map l) (.map es2 ck2) := .map l es2 ck2 ⟨l2, hsel, EL.mono (G.le_add _ hm) hel2⟩
      have hst3 := hst2.join hL hm g0 g1 hb (by simp) (e := ⟨rb, 0, 0, 0, 0⟩) hheap2 hrel hown hz hlow
      have noHalf : ¬ Halfway (lst.setIfInBounds i true) x := by rintro ⟨_, j, hj, hn⟩; exact hn (hall j hj)
      refine hK (Γ.add b ⟨rb, 0, 0, 0, 0⟩) _ _ (I.light S hEA hx hxi hr hst3 (G.le_add _ hm) rfl rfl ?_ (fun _ _ _ _ _ => rfl) ?_ ?_ (fun hh => absurd hh noHalf) (fun y _ _ hh => absurd hh noHalf))
      · intro b' _ hb'
        by_cases hbb : b' = b
        · subst hbb; right
          exact ⟨by rw [hxo]; rfl, hg, pos t', .m b', hxd, hT, rfl⟩
        · left; rw [G.add_other _ hbb]; exact hb'
      · intro y hy hyx hyh t2 rb' es' ck' hyd hyt hyw hyown hyz
        have hrr := hother y hy hyx hyh t2 rb' es' ck' hyd hyt hyw
        refine ⟨hne rb' hrr, ?_, hyz⟩
        rintro ⟨b', e', he', h3, h4⟩
        by_cases hbb : b' = b
        · subst hbb; rw [G.add_same] at he'; cases he'; exact hrr h3.symm
        · rw [G.add_other _ hbb] at he'; exact hyown ⟨b', e', he', h3, h4⟩
      · refine on_step S hA I hxA hxi hr (G.le_add _ hm) ?_ (fun _ _ => rfl)
        intro t2 u2 hlt hxd2 _ hu2
        have : t2 = t' := by rw [hxd] at hxd2; exact (pos_inj (Option.some.inj hxd2)).symm
        subst this
        rw [hT] at hu2; cases hu2
        exact ⟨_, ht, .m b _ (G.add_same _ _)⟩
    · have hex : ∃ j ∈ x.js, ¬ Ls (lst.setIfInBounds i true) j := by
        apply Classical.byContradiction
        intro hc
        exact hall fun j hj => Classical.byContradiction fun hn => hc ⟨j, hj, hn⟩
      refine hK Γ _ _ (I.light S hEA hx hxi hr hst2 (.refl _) rfl rfl (fun b _ hb => .inl hb) (fun _ _ _ _ _ => rfl) ?_ ?_ ?_ ?_)
      · intro y hy hyx hyh t2 rb' es' ck' hyd hyt hyw hyown hyz
        exact ⟨hne rb' (hother y hy hyx hyh t2 rb' es' ck' hyd hyt hyw), hyown, hyz⟩
      · refine on_step S hA I hxA hxi hr (.refl _) ?_ (fun _ _ => rfl)
        intro t2 u2 hlt hxd2 ho2 hu2
        exfalso
        obtain ⟨j, hj, hjn⟩ := hex
        exact hjn (ho2 x (by simp [hx]) hxd2 j (by simp [It.idx, hj]))
      · intro _
        exact .mk t' vs l b rb es2 ck2 l2 hxd hT hg (by rw [hxo]; exact he) (by rw [hxo]; exact hn) hps hm g0 g1 hb ht hheap2 hlow hown hz hel2 hsel
      · intro y hy hyx _ hyh t1 t2 rb' hxd1 hyd hxt hyt
        have : t1 = t' := by rw [hxd] at hxd1; exact (pos_inj (Option.some.inj hxd1)).symm
        subst this
        exact hyx (I.alone y hy x hx hyh ⟨hhead, i, hij, hunl⟩ t2 t1 rb' hyd hxd hyt hxt)
end
end Go.AR
namespace Go.AR
structure Inv0 (L : LoopOk) (Γ0 : G) (h0 : Tr Blk) (nx0 : Pos) (w0 : World) (a0 : Act) (ops : Array Oper) (n : Nat) (E Hd : List It) (lst : Array Bool) (Γ : G) (T : Tr AV) (h : Tr Blk) (nx : Pos) (a : Act) (w : World) : Prop where
  st : St L Γ0 h0 nx0 w0 Γ h nx w
  size : n ≤ a.tmps.size
  sz : a.tmps.size = a0.tmps.size
  df : a.defers = a0.defers
  lsz : lst.size = ops.size
  closed : Closed ops lst
  on : TRon Γ n T a.tmps (On (E ++ Hd) lst)
  pend : ∀ x ∈ E, ¬ Ls lst x.i → readC x.o.c = false → Pend nx0 Γ T h nx x
  half : ∀ x ∈ E, Halfway lst x → Half w0.heap.size nx0 Γ T h nx lst a.tmps w x
  hd : ∀ x ∈ Hd, Ls lst x.i
  low : ∀ x ∈ E, ∀ b, NewAt T x b → b.num < nx.num
  apart : ∀ x ∈ E, ∀ y ∈ E, ∀ b, NewAt T x b → NewAt T y b → x = y
  alone : ∀ x ∈ E, ∀ y ∈ E, Halfway lst x → Halfway lst y → ∀ t t' rb, x.o.d = some (pos t) → y.o.d = some (pos t') → a.tmps[t]? = some (.map (some rb)) → a.tmps[t']? = some (.map (some rb)) → x = y
def Chain (cs : List Op) (All E : List It) : List It → Prop
  | [] => True
  | x :: l => x ∈ All ∧ (∀ y ∈ E, y ≠ x) ∧ ItOk cs x ∧ (∀ y ∈ E, ∀ p, x.o.d = some p → ¬ reads y.o p) ∧ Chain cs All (E ++ [x]) l
section
variable {L : LoopOk} {Γ0 : G} {h0 : Tr Blk} {nx0 : Pos} {w0 : World} {a0 : Act} {ops : Array Oper} {n m : Nat} {E Hd All : List It} {lst : Array Bool} {Γ Γ' : G} {T T' : Tr AV} {h h' h1 : Tr Blk} {nx nx' nx1 : Pos} {a a' : Act} {w w' : World}
  {P : Program} {cs : List Op} {x : It} {i : Nat} {F : Fence} {o : Oper} {v : AV}
theorem Inv.to0 (I : Inv L Γ0 h0 nx0 w0 a0 ops n E Hd lst Γ T h nx a w) : Inv0 L Γ0 h0 nx0 w0 a0 ops n E Hd lst Γ T h nx a w :=
  ⟨I.st, I.size, I.sz, I.df, I.lsz, I.closed, I.on, fun x hx hl _ => I.pend x hx hl, I.half, I.hd, I.low, I.apart, I.alone⟩
theorem Inv0.to (I : Inv0 L Γ0 h0 nx0 w0 a0 ops n E Hd lst Γ T h nx a w) {A : List It} (ha : again A T h nx = true) (hA : ∀ x ∈ E, readC x.o.c = true → x ∈ A ∨ Ls lst x.i) : Inv L Γ0 h0 nx0 w0 a0 ops n E Hd lst Γ T h nx a w :=
  ⟨I.st, I.size, I.sz, I.df, I.lsz, I.closed, I.on, fun x hx hl => (by
    cases hr : readC x.o.c with
    | false => exact I.pend x hx hl hr
    | true =>
      rcases hA x hx hr with h | h
      · exact again_pend ha x h (by cases hc : x.o.c <;> rw [hc] at hr <;> first | rfl | cases hr)
      · exact absurd h hl), I.half, I.hd, I.low, I.apart, I.alone⟩
theorem alive_new (hr : R L Γ h nx w) {B : Blk} {b : Pos} (hb : b.num < nx.num) : alive (h.set nx B) b ↔ alive h b := alive_set (fun e => by rw [e] at hb; omega)
theorem owned_new (hr : R L Γ h nx w) {B : Blk} {r : Nat} : Owned Γ (h.set nx B) r ↔ Owned Γ h r := by
  constructor
  · rintro ⟨b, e, he, h1, h2⟩; exact ⟨b, e, he, h1, (alive_new hr (hr.lt b e he).1).1 h2⟩
  · rintro ⟨b, e, he, h1, h2⟩; exact ⟨b, e, he, h1, (alive_new hr (hr.lt b e he).1).2 h2⟩
theorem R.dry (hr : R L Γ h nx w) (B : Blk) : R L Γ (h.set nx B) nx.succ w := by
  have hne : ∀ b e, Γ.μ b = some e → nx ≠ b := fun b e he eq => by have := (hr.lt b e he).1; rw [eq] at this; omega
  refine ⟨?_, ?_, ?_, hr.zone, ?_, hr.zcells, hr.base⟩
  · intro b e he; rw [Tr.get_set_other _ _ (hne b e he)]; exact hr.blk b e he
  · intro b e he; obtain ⟨h1, h2⟩ := hr.lt b e he; exact ⟨by rw [Pos.num_succ]; omega, h2⟩
  · intro b e b' e' he he' ha ha' heq
    exact hr.inj b e b' e' he he' ((alive_set (hne b e he)).1 ha) ((alive_set (hne b' e' he')).1 ha') heq
  · intro b e he ha; exact hr.zfree b e he ((alive_set (hne b e he)).1 ha)
theorem St.dry (s : St L Γ0 h0 nx0 w0 Γ h nx w) (B : Blk) : St L Γ0 h0 nx0 w0 Γ (h.set nx B) nx.succ w := by
  have hne : ∀ b : Pos, b.num < nx0.num → nx ≠ b := fun b hb eq => by have := s.nx; rw [eq] at this; omega
  refine ⟨s.le, s.rel.dry B, s.os, s.tape, s.output, s.size, s.keep, s.fresh, ?_, ?_, by rw [Pos.num_succ]; have := s.nx; omega, s.zfresh⟩
  · intro b hb hlt; rw [Tr.get_set_other _ _ (hne b hlt)]; exact s.dead b hb hlt
  · intro b hb hlt; rw [Tr.get_set_other _ _ (hne b hlt)]; exact s.still b hb hlt
theorem light_heap (hok : ItOk cs x) (hx : exOp noCall x.o T h nx = .ok v h1 nx1) : (h1 = h ∧ nx1 = nx ∧ ¬ (newC x.o.c = true ∧ wantG T x.o.g = some true)) ∨ (∃ B, h1 = h.set nx B ∧ nx1 = nx.succ ∧ blkV v = some nx) := by
  have hl : stillC x.o.c = true ∨ newC x.o.c = true := by
    cases hok with
    | one i o hc hl => exact hl.imp id (·.1)
    | lit => exact .inr rfl
  rcases exOp_inv hx with ⟨g1, rfl, rfl, rfl⟩ | ⟨g1, vs, g2, g3⟩
  · exact .inl ⟨rfl, rfl, fun ⟨_, h⟩ => by rw [g1] at h; cases h⟩
  · cases hn : newC x.o.c with
    | true =>
      obtain ⟨B, q1, rfl, rfl⟩ := newOf_exV hn g3
      exact .inr ⟨B, rfl, rfl, newOf_blk q1⟩
    | false =>
      rcases hl with hl | hl
      · obtain ⟨rfl, rfl⟩ := still_exV hl g3
        exact .inl ⟨rfl, rfl, fun ⟨h, _⟩ => by cases h⟩
      · rw [hn] at hl; cases hl
theorem NewAt.congr' {y : It} {b : Pos} (hd : ∀ d, y.o.d = some d → T'.get d = T.get d) (hg : ∀ p q, y.o.g = some (p, q) → T'.get p = T.get p) : NewAt T' y b ↔ NewAt T y b := by
  have hw : wantG T' y.o.g = wantG T y.o.g := wantG_congr hg
  unfold NewAt
  rw [hw]
  constructor
  · rintro ⟨h1, h2, d, u, h3, h4, h5⟩; exact ⟨h1, h2, d, u, h3, by rw [← hd d h3]; exact h4, h5⟩
  · rintro ⟨h1, h2, d, u, h3, h4, h5⟩; exact ⟨h1, h2, d, u, h3, by rw [hd d h3]; exact h4, h5⟩
theorem NewAt.congr {y : It} {b : Pos} (hd : ∀ d, y.o.d = some d → T'.get d = T.get d) (hg : ∀ p, reads y.o p → T'.get p = T.get p) : NewAt T' y b ↔ NewAt T y b :=
  NewAt.congr' hd (fun p q e => hg p (.inr ⟨q, e⟩))
theorem Inv0.more (S : Stat P n ops cs All) (hA : ∀ y ∈ E ++ Hd, y ∈ All) (I : Inv0 L Γ0 h0 nx0 w0 a0 ops n E Hd lst Γ T h nx a w) (hxA : x ∈ All) (hxE : ∀ y ∈ E, y ≠ x) (hxH : ∀ y ∈ Hd, y ≠ x) (hok : ItOk cs x) (hst : ∀ y ∈ E, ∀ p, x.o.d = some p → ¬ reads y.o p)
    (hun : ∀ i ∈ x.idx, ¬ Ls lst i) (hx : exOp noCall x.o T h nx = .ok v h1 nx1) : Inv0 L Γ0 h0 nx0 w0 a0 ops n (E ++ [x]) Hd lst Γ (setD x.o.d v T) h1 nx1 a w := by
  have hEA : ∀ y ∈ E, y ∈ All := fun y hy => hA y (by simp [hy])
  have hxi : ¬ Ls lst x.i := hun x.i (by simp [It.idx])
  have hd : ∀ y ∈ E, ∀ d, y.o.d = some d → (setD x.o.d v T).get d = T.get d := fun y hy d hyd => get_setD (fun e => hxE y hy (S.dd y (hEA y hy) x hxA d hyd e))
  have hg : ∀ y ∈ E, ∀ p, reads y.o p → (setD x.o.d v T).get p = T.get p := fun y hy p hp => get_setD (fun e => hst y hy p e hp)
  have hheap := light_heap hok hx
  have hnx : nx.num ≤ nx1.num := by
    rcases hheap with ⟨_, rfl, _⟩ | ⟨B, _, rfl, _⟩
    · exact Nat.le_refl _
    · rw [Pos.num_succ]; omega
  have hget : ∀ b : Pos, b.num < nx.num → h1.get b = h.get b := fun b hb => by
    rcases hheap with ⟨rfl, _, _⟩ | ⟨B, rfl, _, _⟩
    · rfl
    · exact Tr.get_set_other _ _ (fun e => by rw [e] at hb; omega)
  have hown : ∀ r, Owned Γ h1 r ↔ Owned Γ h r := fun r => by
    rcases hheap with ⟨rfl, _, _⟩ | ⟨B, rfl, _, _⟩
    · exact Iff.rfl
    · exact owned_new I.st.rel
  have hself : ∀ p, x.o.d = some p → ¬ reads x.o p := S.self x hxA
  have hlow : ∀ y ∈ E ++ [x], ∀ b, NewAt (setD x.o.d v T) y b → (y ∈ E ∧ NewAt T y b ∧ b.num < nx.num) ∨ (y = x ∧ b = nx ∧ nx1 = nx.succ) := by
    intro y hy b hb
    rcases List.mem_append.1 hy with hy | hy
    · have := (NewAt.congr (hd y hy) (hg y hy)).1 hb
      exact .inl ⟨hy, this, I.low y hy b this⟩
    · simp at hy; subst hy
      right
      obtain ⟨q1, q2, d, u, q3, q4, q5⟩ := hb
      rw [wantG_congr (T := T) (fun p b e => get_setD (fun e' => hself p e' (.inr ⟨b, e⟩)))] at q2
      rw [q3, get_setD_same] at q4; cases q4
      rcases hheap with ⟨_, _, hn⟩ | ⟨B, _, q6, q7⟩
      · exact absurd ⟨q1, q2⟩ hn
      · rw [q7] at q5; exact ⟨rfl, (Option.some.inj q5).symm, q6⟩
  have noH : ¬ Halfway lst x := fun h => hxi h.1
  refine ⟨?_, I.size, I.sz, I.df, I.lsz, I.closed, ?_, ?_, ?_, I.hd, ?_, ?_, ?_⟩
  · rcases hheap with ⟨rfl, rfl, _⟩ | ⟨B, rfl, rfl, _⟩
    · exact I.st
    · exact I.st.dry B
  · intro t u hlt ho hu
    by_cases hxd : x.o.d = some (pos t)
    · exact absurd (ho x (by simp) hxd x.i (by simp [It.idx])) hxi
    · rw [get_setD hxd] at hu
      exact I.on t u hlt (fun y hy hyd => ho y (by simp at hy ⊢; rcases hy with h | h; exact .inl h; exact .inr (.inr h)) hyd) hu
  · intro y hy hyl hyr
    rcases List.mem_append.1 hy with hy | hy
    · exact (I.pend y hy hyl hyr).keep hyr (hd y hy) (hg y hy) hnx (fun b hb hlt => ⟨hb, hget b hlt⟩)
    · simp at hy; subst hy
      refine Pend.born ?_ (.inr hself) hx I.st.nx I.st.rel.fresh
      cases hok with
      | one i o hc hl => exact hl.imp id (·.1)
      | lit => exact .inr rfl
  · intro y hy hyh
    rcases List.mem_append.1 hy with hy | hy
    · cases I.half y hy hyh with
      | mk t vs l b rb es ck l' hdd hT hgg he hn hps hm g0 g1 hb ht hw hlo hown' hz hel hp =>
        have hw' : wantG (setD x.o.d v T) y.o.g = wantG T y.o.g := wantG_congr (fun p b e => hg y hy p (.inr ⟨b, e⟩))
        have he' : evs (setD x.o.d v T) y.o.asx = evs T y.o.asx := evs_congr (fun p hp => hg y hy p (.inl hp))
        exact .mk t vs l b rb es ck l' hdd (by rw [hd y hy _ hdd]; exact hT) (by rw [hw']; exact hgg) (by rw [he']; exact he) hn hps hm g0 (by omega) (by rw [hget b g1]; exact hb) ht hw hlo (by rw [hown]; exact hown') hz hel hp
    · simp at hy; subst hy; exact absurd hyh noH
  · intro y hy b hb
    rcases hlow y hy b hb with ⟨_, _, q⟩ | ⟨_, rfl, q⟩
    · omega
    · rw [q, Pos.num_succ]; omega
  · intro y hy z hz b hyb hzb
    rcases hlow y hy b hyb with ⟨q1, q2, q3⟩ | ⟨q1, q2, _⟩ <;> rcases hlow z hz b hzb with ⟨q4, q5, q6⟩ | ⟨q4, q5, _⟩
    · exact I.apart y q1 z q4 b q2 q5
    · rw [q5] at q3; omega
    · rw [q2] at q6; omega
    · rw [q1, q4]
  · intro y hy z hz hyh hzh
    rcases List.mem_append.1 hy with hy | hy
    · rcases List.mem_append.1 hz with hz | hz
      · exact I.alone y hy z hz hyh hzh
      · simp at hz; subst hz; exact absurd hzh noH
    · simp at hy; subst hy; exact absurd hyh noH
theorem exIts_cons {y : It} {l : List It} {e : Ex} (hx : exIts (y :: l) T h nx = .ok e T' h' nx') : ∃ v h1 nx1, exOp noCall y.o T h nx = .ok v h1 nx1 ∧ exIts l (setD y.o.d v T) h1 nx1 = .ok e T' h' nx' := by
  have hx : (Res.casesOn (exOp noCall y.o T h nx) .bad (fun v h nx => exIts l (setD y.o.d v T) h nx) : SR) = .ok e T' h' nx' := hx
  cases hr : exOp noCall y.o T h nx with
  | bad => rw [hr] at hx; cases hx
  | ok v h1 nx1 => rw [hr] at hx; exact ⟨v, h1, nx1, rfl, hx⟩
theorem Inv0.batch (S : Stat P n ops cs All) : ∀ (l E : List It) (T : Tr AV) (h : Tr Blk) (nx : Pos), (∀ y ∈ E ++ Hd, y ∈ All) → Inv0 L Γ0 h0 nx0 w0 a0 ops n E Hd lst Γ T h nx a w → Chain cs All E l → (∀ x ∈ l, ∀ y ∈ Hd, y ≠ x) →
    (∀ x ∈ l, ∀ i ∈ x.idx, ¬ Ls lst i) → ∀ {e : Ex}, exIts l T h nx = .ok e T' h' nx' → Inv0 L Γ0 h0 nx0 w0 a0 ops n (E ++ l) Hd lst Γ T' h' nx' a w
  | [], E, T, h, nx, hA, I, _, _, _, e, hx => by cases hx; rw [List.append_nil]; exact I
  | x :: l, E, T, h, nx, hA, I, hC, hH, hun, e, hx => by
    obtain ⟨c1, c2, c3, c4, c5⟩ := hC
    obtain ⟨v, h1, nx1, q1, q2⟩ := exIts_cons hx
    have I' := I.more S hA c1 c2 (hH x (by simp)) c3 c4 (hun x (by simp)) q1
    have := Inv0.batch S l (E ++ [x]) _ h1 nx1 (fun y hy => by
      simp at hy
      rcases hy with h | rfl | h
      · exact hA y (by simp [h])
      · exact c1
      · exact hA y (by simp [h])) I' c5 (fun y hy => hH y (by simp [hy])) (fun y hy => hun y (by simp [hy])) q2
    rw [List.append_assoc] at this
    exact this
end
end Go.AR
