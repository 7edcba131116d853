import Derived.Test.YtjchghbmniifgaaGreatDoorX02
import Derived.RangeFuncCalls
import Derived.RangeFuncLeaves
import Derived.Test.YtjchghbmniifgaaGreatDoorX01
import Derived.ProofKit
import Derived.OpenShut
import Derived.Handed
import Derived.Stop.Joined
import Derived.Test.YtjchghbmniifgaaGreatDoorRows
import Derived.Lib.LaidTab
import Derived.LaidMore
import Derived.Lay
import Derived.Stop.LaidErr
set_option linter.unusedVariables false
set_option linter.unusedSimpArgs false
set_option linter.unusedSectionVars false
set_option linter.constructorNameAsVariable false
set_option linter.defProp false
set_option linter.unnecessarySimpa false
set_option autoImplicit false
namespace Go.AR
abbrev Stg := List It × List It × Option It
inductive Good (ops : Array Oper) (cs : List Op) (All : List It) : List It → List It → Option It → List Stg → Prop
  | last {E Hd : List It} (cover : ∀ i < ops.size, ∃ x ∈ E ++ Hd, i ∈ x.idx) : Good ops cs All E Hd none []
  | next {E Hd : List It} {H : It} {L A : List It} {H' : Option It} {rest : List Stg} (hH : H ∈ All) (hjs : H.js = []) (hc : cs[H.i]? = some H.o) (hHE : ∀ y ∈ E ++ Hd, y ≠ H)
      (hw : ∀ i < ops.size, (∃ x ∈ E ++ Hd, i ∈ x.idx) ∨ i = H.i ∨ Before ops H.i i) (hst : ∀ y ∈ E, ∀ p, H.o.d = some p → (∀ q, y.o.g ≠ some (p, q)) ∧ (reads y.o p → ∀ j ∈ y.idx, Before ops j H.i)) (hL : Chain cs All E L) (hLH : ∀ x ∈ L, ∀ y ∈ Hd ++ [H], y ≠ x)
      (hA : ∀ x ∈ E ++ L, readC x.o.c = true → x ∈ A ∨ ∃ y ∈ Hd ++ [H], Before ops x.i y.i) (next : Good ops cs All (E ++ L) (Hd ++ [H]) H' rest) : Good ops cs All E Hd (some H) ((L, A, H') :: rest)
section
variable {L : LoopOk} {Γ0 : G} {h0 : Tr Blk} {nx0 : Pos} {w0 : World} {a0 : Act} {ops : Array Oper} {n m : Nat} {E Hd All : List It} {lst : Array Bool} {Γ Γ' : G} {T T' : Tr AV} {h h' h1 : Tr Blk} {nx nx' nx1 : Pos} {a a' : Act} {w w' : World}
  {P : Program} {cs : List Op} {x : It} {i : Nat} {F : Fence} {o : Oper} {v : AV}
theorem Inv.heavy (S : Stat P n ops cs All) (hA : ∀ y ∈ E ++ Hd, y ∈ All) (hr0 : R L Γ0 h0 nx0 w0) (I : Inv L Γ0 h0 nx0 w0 a0 ops n E Hd lst Γ T h nx a w) {H : It} (hH : H ∈ All) (hjs : H.js = []) (hHE : ∀ y ∈ E ++ Hd, y ≠ H)
    (hst : ∀ y ∈ E, ∀ p, H.o.d = some p → (∀ q, y.o.g ≠ some (p, q)) ∧ (reads y.o p → ∀ j ∈ y.idx, Before ops j H.i)) (hr : H.i ∈ Region.ready .any ops lst) {d : Option Tmp} (hd : compD n d = some H.o.d) {v' : Value} (s : St L Γ h nx w Γ' h1 nx1 w') (hV : V Γ' v v') :
    Inv0 L Γ0 h0 nx0 w0 a0 ops n E (Hd ++ [H]) (lst.setIfInBounds H.i true) Γ' (setD H.o.d v T) h1 nx1 (a.put d v') w' := by
  have hEA : ∀ y ∈ E, y ∈ All := fun y hy => hA y (by simp [hy])
  have hin : H.i < lst.size := by rw [I.lsz]; exact ready_lt hr
  have hset : ∀ j, Ls (lst.setIfInBounds H.i true) j ↔ j = H.i ∨ Ls lst j := fun j => ls_set hin
  have hHi : H.i ∈ H.idx := by simp [It.idx]
  have hother : ∀ y ∈ E ++ Hd, ∀ j ∈ y.idx, j ≠ H.i := fun y hy j hj e => hHE y hy (S.dj y (hA y hy) H hH j hj (by rw [e]; exact hHi))
  have hhw : ∀ y ∈ E, Halfway (lst.setIfInBounds H.i true) y → Halfway lst y := by
    rintro y hy ⟨g, j, hj, hn⟩
    have hy' : y ∈ E ++ Hd := by simp [hy]
    refine ⟨((hset _).1 g).resolve_left (hother y hy' _ (by simp [It.idx])), j, hj, fun h => hn ((hset _).2 (.inr h))⟩
  have hdd : ∀ y ∈ E, ∀ d, y.o.d = some d → (setD H.o.d v T).get d = T.get d := fun y hy d hyd => get_setD (fun e => hHE y (by simp [hy]) (S.dd y (hEA y hy) H hH d hyd e))
  have hcl := closed_set I.closed I.lsz hr
  have hg : ∀ y ∈ E, (∃ j ∈ y.idx, ¬ Ls (lst.setIfInBounds H.i true) j) → ∀ p, reads y.o p → (setD H.o.d v T).get p = T.get p := fun y hy ⟨j, hj, hn⟩ p hp =>
    get_setD (fun e => hn (hcl j H.i ((hst y hy p e).2 hp j hj) ((hset _).2 (.inl rfl))))
  have hgg : ∀ y ∈ E, ∀ p q, y.o.g = some (p, q) → (setD H.o.d v T).get p = T.get p := fun y hy p q hp => get_setD (fun e => (hst y hy p e).1 q hp)
  have hnone : ∀ b, Γ.μ b = none → b.num < nx.num → Γ'.μ b = none ∧ h1.get b = h.get b := fun b hb hlt => by
    refine ⟨?_, s.still b hb hlt⟩
    cases hb' : Γ'.μ b with
    | none => rfl
    | some e => have := (s.fresh b e hb hb').1; omega
  have htm : ∀ y ∈ E, ∀ t, y.o.d = some (pos t) → (a.put d v').tmps[t]? = a.tmps[t]? := fun y hy t hyd => put_get hd (fun e => hHE y (by simp [hy]) (S.dd y (hEA y hy) H hH _ hyd e))
  refine ⟨St.trans hr0 I.st s, by rw [put_size]; exact I.size, by rw [put_size]; exact I.sz, by rw [put_defers]; exact I.df, by rw [Array.size_setIfInBounds]; exact I.lsz, closed_set I.closed I.lsz hr, ?_, ?_, ?_, ?_, ?_, ?_, ?_⟩
  · intro t u hlt ho hu
    by_cases hxd : H.o.d = some (pos t)
    · rw [hxd, get_setD_same] at hu; cases hu
      exact ⟨v', put_get_same (by rw [hd, hxd]) I.size, hV⟩
    · rw [get_setD hxd] at hu
      rw [put_get hd hxd]
      obtain ⟨y, g1, g2⟩ := I.on t u hlt (fun y hy hyd j hj => by
        have := ho y (by simp at hy ⊢; rcases hy with h | h; exact .inl h; exact .inr (.inl h)) hyd j hj
        exact ((hset j).1 this).resolve_left (hother y hy j hj)) hu
      exact ⟨y, g1, g2.mono s.le⟩
  · intro y hy hyl hyr
    exact (I.pend y hy (fun h => hyl ((hset _).2 (.inr h)))).keep hyr (hdd y hy) (hg y hy ⟨y.i, by simp [It.idx], hyl⟩) s.nx hnone
  · intro y hy hyh
    cases I.half y hy (hhw y hy hyh) with
    | mk t vs l b rb es ck l' hyd hT hgg he hn hps hm g0 g1 hb ht hw hlo hown hz hel hp =>
      have hyn : ∃ j ∈ y.idx, ¬ Ls (lst.setIfInBounds H.i true) j := by obtain ⟨_, j, hj, hn⟩ := hyh; exact ⟨j, by simp [It.idx, hj], hn⟩
      have hw' : wantG (setD H.o.d v T) y.o.g = wantG T y.o.g := wantG_congr (fun p b e => hg y hy hyn p (.inr ⟨b, e⟩))
      have he' : evs (setD H.o.d v T) y.o.asx = evs T y.o.asx := evs_congr (fun p hp => hg y hy hyn p (.inl hp))
      obtain ⟨q1, q2⟩ := hnone b hm g1
      have hlt := lt_of_heap hw
      have q3 := s.keep rb hlt hown
      have hwr : w'.heap[rb]? = some (.map es ck) := by rw [q3]; exact hw
      refine .mk t vs l b rb es ck l' hyd (by rw [hdd y hy _ hyd]; exact hT) (by rw [hw']; exact hgg) (by rw [he']; exact he) hn hps q1 g0 (by have := s.nx; omega) (by rw [q2]; exact hb) (by rw [htm y hy t hyd]; exact ht) hwr hlo ?_ (zeta_map s.rel hwr) (EL.mono s.le hel) ?_
      · intro ho
        rcases Owned.back I.st.rel s ho with h | h
        · exact hown h
        · omega
      · rw [sel_congr (lst := lst) (fun j hj => getD_set_ne false (fun e => hother y (by simp [hy]) j (by simp [It.idx, hj]) e.symm))]; exact hp
  · intro y hy
    rw [hset]
    rcases List.mem_append.1 hy with hy | hy
    · exact .inr (I.hd y hy)
    · simp at hy; subst hy; exact .inl rfl
  · intro y hy b hb
    have := I.low y hy b ((NewAt.congr' (hdd y hy) (hgg y hy)).1 hb)
    have := s.nx
    omega
  · intro y hy z hz b hyb hzb
    exact I.apart y hy z hz b ((NewAt.congr' (hdd y hy) (hgg y hy)).1 hyb) ((NewAt.congr' (hdd z hz) (hgg z hz)).1 hzb)
  · intro y hy z hz hyh hzh t t' rb hyd hzd hyt hzt
    rw [htm y hy t hyd] at hyt
    rw [htm z hz t' hzd] at hzt
    exact I.alone y hy z hz (hhw y hy hyh) (hhw z hz hzh) t t' rb hyd hzd hyt hzt
theorem filter_drop {p p' : Nat → Bool} {i : Nat} : ∀ {l : List Nat}, l.Nodup → i ∈ l → p i = true → p' i = false → (∀ j, j ≠ i → p' j = p j) → (l.filter p).length = (l.filter p').length + 1
  | [], _, h, _, _, _ => by cases h
  | x :: l, hn, hi, h1, h2, h3 => by
    obtain ⟨hx, hn⟩ := List.nodup_cons.1 hn
    by_cases hxi : x = i
    · subst hxi
      rw [List.filter_cons_of_pos h1, List.filter_cons_of_neg (by rw [h2]; simp)]
      have : l.filter p = l.filter p' := List.filter_congr fun j hj => (h3 j (fun e => hx (by rw [← e]; exact hj))).symm
      rw [this]; rfl
    · have hi : i ∈ l := by
        cases hi with
        | head => exact absurd rfl hxi
        | tail _ hi => exact hi
      have ih := filter_drop hn hi h1 h2 h3
      rw [List.filter_cons, List.filter_cons, h3 x hxi]
      split
      · simp [ih]
      · exact ih
def left (ops : Array Oper) (lst : Array Bool) : Nat := ((List.range ops.size).filter fun i => !lst.getD i false).length
theorem left_set (hs : lst.size = ops.size) (hr : i ∈ Region.ready .any ops lst) : left ops lst = left ops (lst.setIfInBounds i true) + 1 := by
  have hi := ready_lt hr
  have hu : ¬ Ls lst i := not_ls (mem_ready.1 hr).1
  refine filter_drop List.nodup_range (List.mem_range.2 hi) ?_ ?_ ?_
  · cases hq : lst.getD i false with
    | false => rfl
    | true => exact absurd hq hu
  · have : Ls (lst.setIfInBounds i true) i := (ls_set (by omega)).2 (.inl rfl)
    unfold Ls at this; rw [this]; rfl
  · intro j hj; rw [getD_set_ne false (Ne.symm hj)]
theorem all_done (hback : ∀ (i : Nat) (o : Oper), ops[i]? = some o → ∀ e ∈ o.after, Region.binds .any e = true → e.on < i) (hs : lst.size = ops.size) (hn : Region.ready .any ops lst = []) : ∀ i < ops.size, Ls lst i := by
  intro i
  induction i using Nat.strongRecOn with
  | _ i ih =>
    intro hi
    apply Classical.byContradiction
    intro hl
    have : i ∈ Region.ready .any ops lst := mem_ready.2 ⟨by
      unfold Ls at hl
      have : i < lst.size := by omega
      simp [this] at hl ⊢; exact hl, ops[i], Array.getElem?_eq_getElem hi, fun e he hb => ih e.on (hback i _ (Array.getElem?_eq_getElem hi) e he hb) (by have := hback i _ (Array.getElem?_eq_getElem hi) e he hb; omega)⟩
    rw [hn] at this; cases this
theorem exSts_cons {cl : AV → List AV → Tr Blk → Pos → Res} {s : Stg} {l : List Stg} {e : Ex} (hx : exSts cl (s :: l) T h nx = .ok e T' h' nx') :
    ∃ e1 T1 h1 nx1, exIts s.1 T h nx = .ok e1 T1 h1 nx1 ∧ again s.2.1 T1 h1 nx1 = true ∧
      (match s.2.2 with | some x => ∃ v h2 nx2, exOp cl x.o T1 h1 nx1 = .ok v h2 nx2 ∧ exSts cl l (setD x.o.d v T1) h2 nx2 = .ok e T' h' nx' | none => exSts cl l T1 h1 nx1 = .ok e T' h' nx') := by
  have hx : (match exIts s.1 T h nx with
    | .ok _ T h nx => bif again s.2.1 T h nx then
        (match s.2.2 with
        | some x => (match exOp cl x.o T h nx with | .ok v h nx => exSts cl l (setD x.o.d v T) h nx | .bad => .bad)
        | none => exSts cl l T h nx)
      else .bad
    | .bad => .bad) = SR.ok e T' h' nx' := hx
  cases h1 : exIts s.1 T h nx with
  | bad => simp [h1] at hx
  | ok e1 T1 h2 nx2 =>
    simp only [h1] at hx
    cases h3 : again s.2.1 T1 h2 nx2 with
    | false => simp [h3] at hx
    | true =>
      simp only [h3, cond_true] at hx
      refine ⟨e1, T1, h2, nx2, rfl, h3, ?_⟩
      cases h4 : s.2.2 with
      | none => simp only [h4] at hx; exact hx
      | some x =>
        simp only [h4] at hx
        cases h5 : exOp cl x.o T1 h2 nx2 with
        | bad => simp [h5] at hx
        | ok v h6 nx6 => simp only [h5] at hx; exact ⟨v, h6, nx6, h5, hx⟩
end
end Go.AR
namespace Go.AR
section
variable {L : LoopOk} {Γ0 : G} {h0 : Tr Blk} {nx0 : Pos} {w0 : World} {a0 : Act} {ops : Array Oper} {n m : Nat} {All : List It} {T' : Tr AV} {h' : Tr Blk} {nx' : Pos}
  {P : Program} {cs : List Op} {F : Fence}
theorem all_sound (hF : Wide F) (hL : LMono L) (S : Stat P n ops cs All) (hback : ∀ (i : Nat) (o : Oper), ops[i]? = some o → ∀ e ∈ o.after, Region.binds .any e = true → e.on < i) (hr0 : R L Γ0 h0 nx0 w0)
    {cl : AV → List AV → Tr Blk → Pos → Res} (hcl : CallOk F m P L cl) {Q : Exit → Act → World → Prop} {e : Ex}
    (hQ : ∀ Γ' a' w', St L Γ0 h0 nx0 w0 Γ' h' nx' w' → Full Γ' n T' a' → a'.tmps.size = a0.tmps.size → a'.defers = a0.defers → Q .normal a' w') :
    ∀ (fuel : Nat) (lst : Array Bool) (E Hd : List It) (H : Option It) (rest : List Stg) (Γ : G) (T : Tr AV) (h : Tr Blk) (nx : Pos) (a : Act) (w : World),
      (∀ y ∈ E ++ Hd, y ∈ All) → (∀ y ∈ E, ItOk cs y) → (∀ y ∈ Hd, y.js = []) → (∀ i < ops.size, Ls lst i → ∃ x ∈ E ++ Hd, i ∈ x.idx) → Good ops cs All E Hd H rest → left ops lst = fuel →
      Inv L Γ0 h0 nx0 w0 a0 ops n E Hd lst Γ T h nx a w →
      (match H with | some x => ∃ v h2 nx2, exOp cl x.o T h nx = .ok v h2 nx2 ∧ exSts cl rest (setD x.o.d v T) h2 nx2 = .ok e T' h' nx' | none => exSts cl rest T h nx = .ok e T' h' nx') →
      wpAnyIn F m P .any ops Q fuel lst a w := by
  intro fuel
  induction fuel with
  | zero =>
    intro lst E Hd H rest Γ T h nx a w hA hE hHd hsub hG hfuel I hx
    have hn : Region.ready .any ops lst = [] := by
      cases hq : Region.ready .any ops lst with
      | nil => rfl
      | cons i l =>
        have := left_set I.lsz (i := i) (by rw [hq]; simp)
        omega
    refine ⟨hn, ?_⟩
    have hall := all_done hback I.lsz hn
    cases hG with
    | last cover =>
      have hx : exSts cl [] T h nx = .ok e T' h' nx' := hx
      cases hx
      refine hQ Γ a w I.st ⟨I.size, fun t u hlt _ hu => I.on t u hlt (fun y hy _ j hj => hall j (S.lt y (hA y hy) j hj)) hu⟩ I.sz I.df
    | next hH hjs hc hHE hw hst hLc hLH hAg next =>
      rename_i H L A H' rest
      obtain ⟨x, hx1, hx2⟩ := hsub H.i (S.lt H hH _ (by simp [It.idx])) (hall H.i (S.lt H hH _ (by simp [It.idx])))
      exact absurd (S.dj x (hA x hx1) H hH _ hx2 (by simp [It.idx])) (hHE x hx1)
  | succ fuel ih =>
    intro lst E Hd H rest Γ T h nx a w hA hE hHd hsub hG hfuel I hx
    refine ⟨?_, ?_⟩
    · intro hn
      exfalso
      have hall := all_done hback I.lsz hn
      have : left ops lst = 0 := by
        unfold left
        rw [List.length_eq_zero_iff, List.filter_eq_nil_iff]
        intro i hi
        have := hall i (List.mem_range.1 hi)
        unfold Ls at this
        rw [this]; simp
      omega
    · intro i hr
      have hEv : ∀ y ∈ E, y.hv = false := fun y hy => (hE y hy).hv
      have hin := ready_lt hr
      have hil : i < lst.size := by rw [I.lsz]; exact hin
      have hun : ¬ Ls lst i := not_ls (mem_ready.1 hr).1
      have hleft : left ops (lst.setIfInBounds i true) = fuel := by have := left_set I.lsz hr; omega
      have lightC : (∃ x ∈ E ++ Hd, i ∈ x.idx) → wpOpIn F m P ops Q i (wpAnyIn F m P .any ops Q fuel (lst.setIfInBounds i true)) a w := by
        rintro ⟨x, hx1, hx2⟩
        have hxE : x ∈ E := by
          rcases List.mem_append.1 hx1 with h | h
          · exact h
          · exfalso
            have hj := hHd x h
            unfold It.idx at hx2
            rw [hj] at hx2
            simp at hx2
            exact hun (by rw [hx2]; exact I.hd x h)
        have hK : ∀ Γ' a' w', Inv L Γ0 h0 nx0 w0 a0 ops n E Hd (lst.setIfInBounds i true) Γ' T h nx a' w' → wpAnyIn F m P .any ops Q fuel (lst.setIfInBounds i true) a' w' := fun Γ' a' w' I' =>
          ih (lst.setIfInBounds i true) E Hd H rest Γ' T h nx a' w' hA hE hHd (fun j hj hl => by
            rw [ls_set hil] at hl
            rcases hl with rfl | hl
            · exact ⟨x, hx1, hx2⟩
            · exact hsub j hj hl) hG hleft I' hx
        cases hE x hxE with
        | one j o hc hl =>
          have : i = j := by simpa [It.idx] using hx2
          subst this
          exact step_one hF hL S hA hEv hr0 I hxE rfl hc hr hK
        | lit j js d mm ek kvs hm hlen hj hk hnd hne =>
          rcases List.mem_cons.1 hx2 with h | h
          · have h : i = j := h
            subst h
            exact step_head hF hL S hA I hxE rfl hm hnd hne hr hK
          · have h : i ∈ js := h
            obtain ⟨q, hq⟩ := List.mem_iff_getElem?.1 h
            have hql : q < kvs.length := by rw [hlen]; exact (List.getElem?_eq_some_iff.1 hq).1
            have hkv : kvs[q]? = some kvs[q] := List.getElem?_eq_getElem hql
            exact step_ins hF hL S hA hEv I hxE rfl hlen hq hkv (hj q i _ hq hkv) (hk _ (List.mem_of_getElem? hkv)) hnd hr hK
      cases hG with
      | last cover => exact lightC (cover i hin)
      | next hH hjs hc hHE hw hst hLc hLH hAg next =>
        rename_i H Ls' A H' rest
        have hHun : ¬ Ls lst H.i := fun hl => by
          obtain ⟨x, hx1, hx2⟩ := hsub H.i (S.lt H hH _ (by simp [It.idx])) hl
          exact absurd (S.dj x (hA x hx1) H hH _ hx2 (by simp [It.idx])) (hHE x hx1)
        rcases hw i hin with h | rfl | h
        · exact lightC h
        ·
          obtain ⟨v, h2, nx2, hx1, hx2⟩ := hx
          obtain ⟨o, ao, hi, g2, hco⟩ := comp_at S hin
          rw [hc] at g2; cases g2
          obtain ⟨xs, c1, c2, c3, c4⟩ := compOper_inv hco
          have hrd : TRon Γ n T a.tmps (reads H.o) := fun t u hlt hp hu => I.on t u hlt (reads_on S I.closed hA hEv I.hd hr hc hp (fun y hy hj => by
            have := S.dj y hy H hH H.i (by simp [It.idx, hj]) (by simp [It.idx])
            subst this; rw [hjs] at hj; cases hj)) hu
          refine op_step hi hco hF hL hcl I.st.rel hrd hx1 fun Γ1 v' w1 s hV => ?_
          have I0 := I.heavy S hA hr0 hH hjs hHE hst hr c2 s hV
          obtain ⟨e1, T1, h3, nx3, q1, q2, q3⟩ := exSts_cons hx2
          have hA' : ∀ y ∈ E ++ (Hd ++ [H]), y ∈ All := fun y hy => by
            simp at hy
            rcases hy with h | h | rfl
            · exact hA y (by simp [h])
            · exact hA y (by simp [h])
            · exact hH
          have chainAll : ∀ (l E : List It), Chain cs All E l → ∀ y ∈ l, y ∈ All ∧ ItOk cs y ∧ ∀ z ∈ E, z ≠ y := by
            intro l
            induction l with
            | nil => intro E _ y hy; cases hy
            | cons z l ihl =>
              intro E hC y hy
              obtain ⟨k1, k2, k3, k4, k5⟩ := hC
              cases hy with
              | head => exact ⟨k1, k3, k2⟩
              | tail _ hy =>
                obtain ⟨j1, j2, j3⟩ := ihl _ k5 y hy
                exact ⟨j1, j2, fun u hu => j3 u (by simp [hu])⟩
          have hunL : ∀ x ∈ Ls', ∀ j ∈ x.idx, ¬ Ls (lst.setIfInBounds H.i true) j := by
            intro x hxl j hj hl
            obtain ⟨k1, k2, k3⟩ := chainAll Ls' E hLc x hxl
            rw [ls_set hil] at hl
            rcases hl with rfl | hl
            · exact hLH x hxl H (by simp) (S.dj H hH x k1 _ (by simp [It.idx]) hj)
            · obtain ⟨z, hz1, hz2⟩ := hsub j (S.lt x k1 j hj) hl
              have hzx := S.dj z (hA z hz1) x k1 j hz2 hj
              rcases List.mem_append.1 hz1 with h | h
              · exact k3 z h hzx
              · exact hLH x hxl z (by simp [h]) hzx
          have I1 := I0.batch S Ls' E _ _ _ hA' hLc hLH hunL q1
          have I2 := I1.to q2 (fun x hxl hxr => by
            rcases hAg x hxl hxr with h | ⟨y, hy, hb⟩
            · exact .inl h
            · exact .inr (I0.closed _ _ hb (I0.hd y hy)))
          refine ih (lst.setIfInBounds H.i true) (E ++ Ls') (Hd ++ [H]) H' rest Γ1 T1 h3 nx3 _ w1 ?_ ?_ ?_ ?_ next hleft I2 ?_
          · intro y hy
            simp at hy
            rcases hy with h | h | h | rfl
            · exact hA y (by simp [h])
            · exact (chainAll Ls' E hLc y h).1
            · exact hA y (by simp [h])
            · exact hH
          · intro y hy
            rcases List.mem_append.1 hy with h | h
            · exact hE y h
            · exact (chainAll Ls' E hLc y h).2.1
          · intro y hy
            rcases List.mem_append.1 hy with h | h
            · exact hHd y h
            · simp at h; subst h; exact hjs
          · intro j hj hl
            rw [ls_set hil] at hl
            rcases hl with rfl | hl
            · exact ⟨H, by simp, by simp [It.idx]⟩
            · obtain ⟨z, hz1, hz2⟩ := hsub j hj hl
              exact ⟨z, by simp at hz1 ⊢; rcases hz1 with h | h; exact .inl h; exact .inr (.inr (.inl h)), hz2⟩
          · cases H' with
            | none => exact q3
            | some x => exact q3
        · exact absurd (ready_before I.closed hr h) hHun
end
end Go.AR
namespace Go.AR
section
variable {L : LoopOk} {Γ : G} {h : Tr Blk} {nx : Pos} {w : World} {a : Act} {T : Tr AV} {ops : Array Oper} {n m : Nat} {All : List It} {T' : Tr AV} {h' : Tr Blk} {nx' : Pos}
  {P : Program} {cs : List Op} {F : Fence}
structure DOk (P : Program) (n : Nat) (ops : Array Oper) (st : List Stg) : Prop where
  ok : ∃ (cs : List Op) (All L0 A0 : List It) (H0 : Option It) (rest : List Stg), Stat P n ops cs All ∧ st = (L0, A0, H0) :: rest ∧ Chain cs All [] L0 ∧ (∀ x ∈ L0, readC x.o.c = true → x ∈ A0) ∧ Good ops cs All L0 [] H0 rest
  back : ∀ (i : Nat) (o : Oper), ops[i]? = some o → ∀ e ∈ o.after, Region.binds .any e = true → e.on < i
theorem dreg_sound (hm : P.follows .mixedOrders = true) {id : Nat} {st : List Stg} (D : DOk P n ops st) (hF : Wide F) (hL : LMono L) {cl : AV → List AV → Tr Blk → Pos → Res} (hcl : CallOk F m P L cl) {Q : Exit → Act → World → Prop} {e : Ex}
    (hr : R L Γ h nx w) (ht : Full Γ n T a) (hx : exSts cl st T h nx = .ok e T' h' nx')
    (hQ : ∀ Γ' a' w', St L Γ h nx w Γ' h' nx' w' → Full Γ' n T' a' → a'.tmps.size = a.tmps.size → a'.defers = a.defers → Q .normal a' w') : (Code.region id ops true).wpIn F m P Q a w := by
  obtain ⟨cs, All, L0, A0, H0, rest, S, rfl, hC, hread, hG⟩ := D.ok
  refine wpIn_region_any hm ?_
  have hdr : St L Γ h nx w Γ h nx ({ w with drawn := w.drawn + 1 } : World) := hr.drew
  obtain ⟨e1, T1, h1, nx1, q1, q2, q3⟩ := exSts_cons hx
  have hf : ∀ i, ¬ Ls (Array.replicate ops.size false) i := fun i => by
    unfold Ls
    by_cases hi : i < ops.size
    · simp [hi]
    · simp [Array.getElem?_eq_none (xs := Array.replicate ops.size false) (i := i) (by simp; omega)]
  have I0 : Inv0 L Γ h nx ({ w with drawn := w.drawn + 1 } : World) a ops n [] [] (Array.replicate ops.size false) Γ T h nx a ({ w with drawn := w.drawn + 1 } : World) :=
    ⟨St.refl hdr.rel, ht.size, rfl, rfl, by simp, fun j i _ hi => absurd hi (hf i), fun t u hlt _ hu => ht.rel t u hlt trivial hu, fun x hx => (by cases hx), fun x hx => (by cases hx), fun x hx => (by cases hx), fun x hx => (by cases hx),
      fun x hx => (by cases hx), fun x hx => (by cases hx)⟩
  have I1 := I0.batch S L0 [] T h nx (fun y hy => by cases hy) hC (fun _ _ y hy => by cases hy) (fun _ _ i _ => hf i) q1
  rw [List.nil_append] at I1
  have I2 := I1.to q2 (fun x hx hr => .inl (hread x hx hr))
  have chainAll : ∀ (l E : List It), Chain cs All E l → ∀ y ∈ l, y ∈ All ∧ ItOk cs y := by
    intro l
    induction l with
    | nil => intro E _ y hy; cases hy
    | cons z l ihl =>
      intro E hC y hy
      obtain ⟨k1, k2, k3, k4, k5⟩ := hC
      cases hy with
      | head => exact ⟨k1, k3⟩
      | tail _ hy => exact ihl _ k5 y hy
  have hleft : left ops (Array.replicate ops.size false) = ops.size := by
    unfold left
    rw [List.filter_eq_self.2]
    · simp
    · intro i hi
      cases hq : (Array.replicate ops.size false).getD i false with
      | false => rfl
      | true => exact absurd hq (hf i)
  refine all_sound hF hL S D.back hdr.rel hcl (h' := h') (nx' := nx') (T' := T') (e := e) (fun Γ' a' w' s hfull hsz hdf => hQ Γ' a' w' (St.trans hr hdr s) hfull hsz hdf) ops.size _ L0 [] H0 rest Γ T1 h1 nx1 a _ ?_ ?_ ?_ ?_ hG hleft I2 ?_
  · intro y hy; rw [List.append_nil] at hy; exact (chainAll L0 [] hC y hy).1
  · intro y hy; exact (chainAll L0 [] hC y hy).2
  · intro y hy; cases hy
  · intro i _ hi; exact absurd hi (hf i)
  · cases H0 with
    | none => exact q3
    | some x => exact q3
end
end Go.AR
namespace Go.AR
inductive CR (P : Program) (n : Nat) : Bool → Code → AC → Prop
  | skip {b : Bool} : CR P n b .skip .skip
  | reg {b : Bool} {id : Nat} {ops : Array Oper} {cs : List Op} (h : compOps P n ops = some cs) : CR P n b (.region id ops false) (.reg cs)
  | dreg {b : Bool} {id : Nat} {ops : Array Oper} {st : List Stg} (h : DOk P n ops st) : CR P n b (.region id ops true) (.dreg st)
  | seq {b : Bool} {x y : Code} {x' y' : AC} (hx : CR P n b x x') (hy : CR P n b y y') : CR P n b (.seq x y) (.seq x' y')
  | cond {b : Bool} {c : Operand} {c' : X} {x y : Code} {x' y' : AC} (hc : compX n c = some c') (hx : CR P n b x x') (hy : CR P n b y y') : CR P n b (.cond c x y) (.cond c' x' y')
  | block {b : Bool} {id : Nat} {x : Code} {x' : AC} (hx : CR P n b x x') : CR P n b (.block id x) (.block id x')
  | loop {b : Bool} {x : Code} {x' : AC} (hx : CR P n b x x') : CR P n b (.loop x) (.loop x')
  | exit {b : Bool} {id : Nat} : CR P n b (.exit id) (.exit id)
  | ret {b : Bool} : CR P n b .ret .ret
  | rf {f : Operand} {f' : X} {ps : Array Tmp} {pps : List Pos} {asg body : Code} {asg' body' : AC} (hf : compX n f = some f') (hp : allO (fun t => compD n (some t)) ps.toList = some (pps.map some)) (ha : CR P n false asg asg') (hb : CR P n false body body') :
      CR P n true (.rangeFunc f ps asg body) (.rf f' pps asg' body')
def exitOf : Ex → Exit | .n => .normal | .x id => .exit id | .r => .ret
inductive Marks (s : Nat) (Γ : G) (h : Tr Blk) (w : World) (ds : List Deferred) : List Deferred → Prop
  | nil : Marks s Γ h w ds ds
  | cons {r : Nat} {l : List Deferred} (h1 : s ≤ r) (h2 : w.heap[r]? = some (.deferred (some []))) (h3 : ¬ Owned Γ h r) (h4 : ∀ r', ({ target := .collected r', args := #[] } : Deferred) ∈ l → r' < r) (t : Marks s Γ h w ds l) :
      Marks s Γ h w ds ({ target := .collected r, args := #[] } :: l)
section
variable {L : LoopOk} {Γ Γ' : G} {h h' : Tr Blk} {nx nx' : Pos} {w w' : World} {a : Act} {T T' : Tr AV} {n m : Nat} {P : Program} {F : Fence}
def After (L : LoopOk) (Γ : G) (h : Tr Blk) (nx : Pos) (w : World) (n : Nat) (a : Act) (e : Ex) (T' : Tr AV) (h' : Tr Blk) (nx' : Pos) (Q : Exit → Act → World → Prop) : Prop :=
  ∀ Γ' a' w', St L Γ h nx w Γ' h' nx' w' → Full Γ' n T' a' → a'.tmps.size = a.tmps.size → Marks w.heap.size Γ' h' w' a.defers a'.defers → Q (exitOf e) a' w'
def Snd (P : Program) (L : LoopOk) (C : Ctx) (k : Nat) : Prop :=
  ∀ (F : Fence) (m n : Nat) (b : Bool) (c : Code) (c' : AC), Wide F → (b = true → F.round = none) → CR P n b c c' → ∀ (Γ : G) (T : Tr AV) (h : Tr Blk) (nx : Pos) (a : Act) (w : World) (e : Ex) (T' : Tr AV) (h' : Tr Blk) (nx' : Pos) (Q : Exit → Act → World → Prop),
    exec C k c' T h nx = .ok e T' h' nx' → R L Γ h nx w → Full Γ n T a → (b = true → ∀ d ∈ a.defers, ∃ r, d = { target := .collected r, args := #[] } ∧ r < w.heap.size) → After L Γ h nx w n a e T' h' nx' Q → c.wpIn F m P Q a w
theorem exec_succ (C : Ctx) (k : Nat) (c : AC) : exec C (k + 1) c T h nx = exec1 C (exec C k) c T h nx := rfl
end
end Go.AR
namespace Go.AR
section
variable {L : LoopOk} {Γ Γ' Γ1 : G} {h h' h1 : Tr Blk} {nx nx' nx1 : Pos} {w w' w1 : World} {a : Act} {T T' : Tr AV} {n m : Nat} {P : Program} {F : Fence} {C : Ctx} {k : Nat}
theorem Marks.move {s : Nat} {ds l : List Deferred} (hr : R L Γ h nx w) (hm : Marks s Γ h w ds l) (st : St L Γ h nx w Γ' h' nx' w') : Marks s Γ' h' w' ds l := by
  induction hm with
  | nil => exact .nil
  | cons h1 h2 h3 h4 _ ih =>
    have hlt := lt_of_heap h2
    refine .cons h1 (by rw [st.keep _ hlt h3]; exact h2) (fun ho => ?_) h4 ih
    rcases Owned.back hr st ho with h | h
    · exact h3 h
    · omega
theorem Marks.trans {s s' : Nat} {ds l l' : List Deferred} (hs : s ≤ s') (h1 : Marks s Γ h w ds l) (h2 : Marks s' Γ h w l l') : Marks s Γ h w ds l' := by
  induction h2 with
  | nil => exact h1
  | cons g1 g2 g3 g4 _ ih => exact .cons (Nat.le_trans hs g1) g2 g3 g4 ih
theorem Marks.all {s : Nat} {ds l : List Deferred} (hm : Marks s Γ h w ds l) (hd : ∀ d ∈ ds, ∃ r, d = ({ target := .collected r, args := #[] } : Deferred) ∧ r < w.heap.size) : ∀ d ∈ l, ∃ r, d = ({ target := .collected r, args := #[] } : Deferred) ∧ r < w.heap.size := by
  induction hm with
  | nil => exact hd
  | cons g1 g2 g3 g4 _ ih =>
    intro d hd
    cases hd with
    | head => exact ⟨_, rfl, lt_of_heap g2⟩
    | tail _ hd => exact ih d hd
theorem After.then {n : Nat} {e : Ex} {T' : Tr AV} {Q : Exit → Act → World → Prop} {Γ1 : G} {a1 : Act} (hr : R L Γ h nx w) (s : St L Γ h nx w Γ1 h1 nx1 w1) (hsz : a1.tmps.size = a.tmps.size) (hm : Marks w.heap.size Γ1 h1 w1 a.defers a1.defers)
    (hQ : After L Γ h nx w n a e T' h' nx' Q) : After L Γ1 h1 nx1 w1 n a1 e T' h' nx' Q := by
  intro Γ' a' w' s' hf hsz' hm'
  exact hQ Γ' a' w' (St.trans hr s s') hf (by rw [hsz', hsz]) ((hm.move s.rel s').trans s.size hm')
theorem least {p : Nat → Prop} (h : ∃ k, p k) : ∃ k, p k ∧ ∀ j < k, ¬ p j := by
  obtain ⟨k, hk⟩ := h
  induction k using Nat.strongRecOn with
  | _ k ih =>
    by_cases hj : ∃ j, j < k ∧ p j
    · obtain ⟨j, h1, h2⟩ := hj; exact ih j h1 h2
    · exact ⟨k, hk, fun j h1 h2 => hj ⟨j, h1, h2⟩⟩
theorem exSts_normal {cl : AV → List AV → Tr Blk → Pos → Res} : ∀ {st : List Stg} {T : Tr AV} {h : Tr Blk} {nx : Pos} {e : Ex}, exSts cl st T h nx = .ok e T' h' nx' → e = .n
  | [], T, h, nx, e, hx => by cases hx; rfl
  | s :: l, T, h, nx, e, hx => by
    obtain ⟨_, _, _, _, _, _, q⟩ := exSts_cons hx
    cases hs : s.2.2 with
    | none => rw [hs] at q; exact exSts_normal q
    | some x => rw [hs] at q; obtain ⟨_, _, _, _, q⟩ := q; exact exSts_normal q
def Head (P : Program) (L : LoopOk) (C : Ctx) (n : Nat) (b : Bool) (c' : AC) (e : Ex) (T' : Tr AV) (h' : Tr Blk) (nx' : Pos) (Q : Exit → Act → World → Prop) (k : Nat) (a : Act) (w : World) : Prop :=
  ∃ Γ T h nx, exec C k (.loop c') T h nx = .ok e T' h' nx' ∧ R L Γ h nx w ∧ Full Γ n T a ∧ (b = true → ∀ d ∈ a.defers, ∃ r, d = ({ target := .collected r, args := #[] } : Deferred) ∧ r < w.heap.size) ∧ After L Γ h nx w n a e T' h' nx' Q
theorem snd_loop {K : Nat} (hS : ∀ j ≤ K, Snd P L C j) {b : Bool} {c : Code} {c' : AC} (hF : Wide F) (hb : b = true → F.round = none) (hc : CR P n b c c') {e : Ex} {T' : Tr AV} {Q : Exit → Act → World → Prop} (hk : k ≤ K + 1) (hH : Head P L C n b c' e T' h' nx' Q k a w) : (Code.loop c).wpIn F m P Q a w := by
  classical
  let I : Act → World → Prop := fun a w => ∃ k, k ≤ K + 1 ∧ Head P L C n b c' e T' h' nx' Q k a w
  let μ : Act → World → Nat := fun a w => if hI : I a w then (least hI).choose else 0
  have hμ : ∀ a w (hI : I a w), (μ a w ≤ K + 1 ∧ Head P L C n b c' e T' h' nx' Q (μ a w) a w) ∧ ∀ j < μ a w, ¬ (j ≤ K + 1 ∧ Head P L C n b c' e T' h' nx' Q j a w) := fun a w hI => by
    have : μ a w = (least hI).choose := dif_pos hI
    rw [this]; exact (least hI).choose_spec
  refine wpIn_loop I μ ⟨k, hk, hH⟩ ?_
  intro a w hI
  obtain ⟨⟨hle, Γ, T, h, nx, hx, hr, ht, hd, hQ⟩, _⟩ := hμ a w hI
  generalize hkk : μ a w = kk at hle hx
  cases kk with
  | zero => cases hx
  | succ k' =>
    have hx : seqR (exec C k' (.loop c')) (exec C k' c' T h nx) = .ok e T' h' nx' := hx
    cases hb1 : exec C k' c' T h nx with
    | bad => rw [hb1] at hx; cases hx
    | ok e1 T1 h1 nx1 =>
      rw [hb1] at hx
      refine hS k' (by omega) F m n b c c' hF hb hc Γ T h nx a w e1 T1 h1 nx1 _ hb1 hr ht hd ?_
      intro Γ1 a1 w1 s hf hsz hm
      cases e1 with
      | n =>
        have hx : exec C k' (.loop c') T1 h1 nx1 = .ok e T' h' nx' := hx
        have hnext : Head P L C n b c' e T' h' nx' Q k' a1 w1 := ⟨Γ1, T1, h1, nx1, hx, s.rel, hf, fun hbt => hm.all (fun d hd' => by obtain ⟨r, q1, q2⟩ := hd hbt d hd'; exact ⟨r, q1, Nat.lt_of_lt_of_le q2 s.size⟩), hQ.then hr s hsz hm⟩
        have hI1 : I a1 w1 := ⟨k', by omega, hnext⟩
        refine ⟨hI1, ?_⟩
        have h2 := (hμ a1 w1 hI1).2
        rcases Nat.lt_or_ge (μ a1 w1) (k' + 1) with h3 | h3
        · exact h3
        · exact absurd ⟨by omega, hnext⟩ (h2 k' (by omega))
      | x id => cases hx; exact hQ Γ1 a1 w1 s hf hsz hm
      | r => cases hx; exact hQ Γ1 a1 w1 s hf hsz hm
theorem snd_step (hmx : P.follows .mixedOrders = true) (hL : LMono L) {K : Nat} (hS : ∀ j ≤ K, Snd P L C j) (hcl : ∀ (F : Fence) (m : Nat), Wide F → CallOk F m P L (callV C (exec C K)))
    (hrf : ∀ (F : Fence) (m n : Nat), Wide F → F.round = none → ∀ (f : Operand) (f' : X) (ps : Array Tmp) (pps : List Pos) (asg body : Code) (asg' body' : AC), CR P n true (.rangeFunc f ps asg body) (.rf f' pps asg' body') →
      ∀ (Γ : G) (T : Tr AV) (h : Tr Blk) (nx : Pos) (a : Act) (w : World) (e : Ex) (T' : Tr AV) (h' : Tr Blk) (nx' : Pos) (Q : Exit → Act → World → Prop),
      rfR C (exec C K) (ev T f') pps asg' body' T h nx = .ok e T' h' nx' → R L Γ h nx w → Full Γ n T a → (∀ d ∈ a.defers, ∃ r, d = ({ target := .collected r, args := #[] } : Deferred) ∧ r < w.heap.size) → After L Γ h nx w n a e T' h' nx' Q →
      (Code.rangeFunc f ps asg body).wpIn F m P Q a w) : Snd P L C (K + 1) := by
  intro F m n b c c' hF hb hc Γ T h nx a w e T' h' nx' Q hx hr ht hd hQ
  have nil : ∀ {Γ' : G} {a' : Act} {w' : World}, a'.defers = a.defers → Marks w.heap.size Γ' h' w' a.defers a'.defers := fun e => by rw [e]; exact .nil
  cases hc with
  | skip => cases hx; exact wpIn_skip (hQ Γ a w (St.refl hr) ht rfl .nil)
  | reg h =>
    have hx : exOps (callV C (exec C K)) _ T _ nx = .ok e T' h' nx' := hx
    have := exOps_normal hx; subst this
    exact reg_sound h hF hL (hcl F m hF) hr ht hx (fun Γ' a' w' s hf hsz hdf => hQ Γ' a' w' s hf hsz (nil hdf))
  | dreg hD =>
    have hx : exSts (callV C (exec C K)) _ T _ nx = .ok e T' h' nx' := hx
    have he : e = .n := exSts_normal hx
    subst he
    exact dreg_sound hmx hD hF hL (hcl F m hF) hr ht hx (fun Γ' a' w' s hf hsz hdf => hQ Γ' a' w' s hf hsz (nil hdf))
  | seq hx1 hy1 =>
    rename_i x y x' y'
    have hx : seqR (exec C K y') (exec C K x' T h nx) = .ok e T' h' nx' := hx
    cases hb1 : exec C K x' T h nx with
    | bad => rw [hb1] at hx; cases hx
    | ok e1 T1 h1 nx1 =>
      rw [hb1] at hx
      refine wpIn_seq (hS K (Nat.le_refl _) F m n b x x' hF hb hx1 Γ T h nx a w e1 T1 h1 nx1 _ hb1 hr ht hd ?_)
      intro Γ1 a1 w1 s hf hsz hm
      cases e1 with
      | n =>
        have hx : exec C K y' T1 h1 nx1 = .ok e T' h' nx' := hx
        exact hS K (Nat.le_refl _) F m n b y y' hF hb hy1 Γ1 T1 h1 nx1 a1 w1 e T' h' nx' Q hx s.rel hf (fun hbt => hm.all (fun d hd' => by obtain ⟨r, q1, q2⟩ := hd hbt d hd'; exact ⟨r, q1, Nat.lt_of_lt_of_le q2 s.size⟩)) (hQ.then hr s hsz hm)
      | x id => cases hx; exact hQ Γ1 a1 w1 s hf hsz hm
      | r => cases hx; exact hQ Γ1 a1 w1 s hf hsz hm
  | cond hc hx1 hy1 =>
    rename_i c c' x y x' y'
    have hx : condR (ev T c') (exec C K x' T h nx) (exec C K y' T h nx) = .ok e T' h' nx' := hx
    cases hv : ev T c' with
    | none => rw [hv] at hx; cases hx
    | some v =>
      rw [hv] at hx
      have hV := compX_eval hc hv (a := a) (Γ := Γ) (fun t u hlt _ hu => ht.rel t u hlt trivial hu)
      cases v <;> try (cases hx; done)
      rename_i q
      cases hV' : a.eval c <;> rw [hV'] at hV <;> try (cases hV; done)
      cases hV
      cases q with
      | true => exact wpIn_cond_true hV' (hS K (Nat.le_refl _) F m n b x x' hF hb hx1 Γ T h nx a w e T' h' nx' Q hx hr ht hd hQ)
      | false => exact wpIn_cond_false hV' (hS K (Nat.le_refl _) F m n b y y' hF hb hy1 Γ T h nx a w e T' h' nx' Q hx hr ht hd hQ)
  | block hx1 =>
    rename_i id x x'
    have hx : blkR id (exec C K x' T h nx) = .ok e T' h' nx' := hx
    cases hb1 : exec C K x' T h nx with
    | bad => rw [hb1] at hx; cases hx
    | ok e1 T1 h1 nx1 =>
      rw [hb1] at hx
      refine wpIn_block (hS K (Nat.le_refl _) F m n b x x' hF hb hx1 Γ T h nx a w e1 T1 h1 nx1 _ hb1 hr ht hd ?_)
      intro Γ1 a1 w1 s hf hsz hm
      cases e1 with
      | n => cases hx; exact hQ Γ1 a1 w1 s hf hsz hm
      | r => cases hx; exact hQ Γ1 a1 w1 s hf hsz hm
      | x j =>
        have hx : (bif Nat.beq j id then SR.ok .n T1 h1 nx1 else .ok (.x j) T1 h1 nx1) = .ok e T' h' nx' := hx
        show if j = id then Q .normal a1 w1 else Q (.exit j) a1 w1
        cases hj : Nat.beq j id with
        | true =>
          rw [hj] at hx; cases hx
          rw [if_pos (Nat.eq_of_beq_eq_true hj)]
          exact hQ Γ1 a1 w1 s hf hsz hm
        | false =>
          rw [hj] at hx; cases hx
          rw [if_neg (Nat.ne_of_beq_eq_false hj)]
          exact hQ Γ1 a1 w1 s hf hsz hm
  | loop hx1 => exact snd_loop hS hF hb hx1 (Nat.le_refl _) ⟨Γ, T, h, nx, hx, hr, ht, hd, hQ⟩
  | exit => cases hx; exact wpIn_exit (hQ Γ a w (St.refl hr) ht rfl .nil)
  | ret => cases hx; exact wpIn_ret (hQ Γ a w (St.refl hr) ht rfl .nil)
  | rf hf hp ha hb' => exact hrf F m n hF (hb rfl) _ _ _ _ _ _ _ _ (.rf hf hp ha hb') Γ T h nx a w e T' h' nx' Q hx hr ht (hd rfl) hQ
end
end Go.AR
namespace Go.AR
noncomputable def compR (P : Program) (n : Nat) : ResultVar → Option Rs
  | .tmp t => if t < n then some (.t (pos t)) else none
  | .cell a t => match aggOf P t, szOf P t with | some g, some s => if a < n then some (.c (pos a) g s) else none | _, _ => none
structure FnOk (P : Program) (f : Nat) (fn' : Fn) : Prop where
  ok : ∃ fn c, P.funcs[f]? = some fn ∧ (fn.name == "runtime.NumGoroutine") = false ∧ fn.body = some c ∧ CR P fn.ntmps true c fn'.body ∧ fn'.params = (List.range fn'.params.length).map pos ∧ allO (compR P fn.ntmps) fn.results.toList = some fn'.results
section
variable {L : LoopOk} {Γ Γ' Γ0 : G} {h h' h0 : Tr Blk} {nx nx' nx0 : Pos} {w w' w0 : World} {a : Act} {T T' : Tr AV} {n m : Nat} {P : Program} {F : Fence} {C : Ctx} {K : Nat}
theorem bindP_get : ∀ (k j : Nat) (vs : List AV) (T0 T : Tr AV), bindP ((List.range' j k).map pos) vs T0 = some T → vs.length = k ∧ ∀ t, T.get (pos t) = if j ≤ t ∧ t < j + k then vs[t - j]? else T0.get (pos t)
  | 0, j, vs, T0, T, hb => by
    cases vs with
    | nil => cases hb; exact ⟨rfl, fun t => by rw [if_neg (by omega)]⟩
    | cons _ _ => cases hb
  | k + 1, j, vs, T0, T, hb => by
    cases vs with
    | nil => cases hb
    | cons v vs =>
      have hb : bindP ((List.range' (j + 1) k).map pos) vs (T0.set (pos j) v) = some T := hb
      obtain ⟨h1, h2⟩ := bindP_get k (j + 1) vs _ T hb
      refine ⟨by simp [h1], fun t => ?_⟩
      rw [h2 t]
      by_cases ht : t = j
      · subst ht
        rw [if_neg (by omega), if_pos (by omega), Tr.get_set_same]; simp
      · by_cases hin : j + 1 ≤ t ∧ t < j + 1 + k
        · rw [if_pos hin, if_pos (by omega), show t - j = (t - (j + 1)) + 1 by omega, List.getElem?_cons_succ]
        · rw [if_neg hin, if_neg (by omega), Tr.get_set_other _ _ (fun e => ht (pos_inj e).symm)]
theorem full_enter {fn' : Fn} (hp : fn'.params = (List.range fn'.params.length).map pos) {vs : List AV} {args : Array Value} (hv : VL Γ vs args.toList) (hb : bindP fn'.params vs .lf = some T) (n : Nat) :
    Full Γ n T { tmps := args ++ Array.replicate (n - args.size) undef, defers := [] } := by
  rw [hp, List.range_eq_range'] at hb
  obtain ⟨h1, h2⟩ := bindP_get _ 0 vs .lf T hb
  refine ⟨by simp; omega, ?_⟩
  intro t u hlt _ hu
  rw [h2 t] at hu
  split at hu
  · obtain ⟨y, g1, g2⟩ := hv.get hu
    simp only [Nat.sub_zero] at g1
    rw [Array.getElem?_toList] at g1
    refine ⟨y, ?_, g2⟩
    rw [Array.getElem?_append_left (Array.getElem?_eq_some_iff.1 g1).1]; exact g1
  · rw [Tr.get_lf] at hu; cases hu
def resM (tmps : Array Value) : ResultVar → Sem Value
  | .tmp t => pure (tmps.getD t undef)
  | .cell a t => do loadVar t (← asAddr (tmps.getD a undef))
theorem results_resM (fn : Func) (tmps : Array Value) : results fn tmps = (do let vs ← fn.results.mapM (resM tmps); pure (if h : vs.size = 1 then vs[0] else .tuple vs)) := by
  unfold results
  congr 1
theorem rs_run {r : ResultVar} {r' : Rs} (hc : compR P n r = some r') (hr : R L Γ h nx w) (ht : Full Γ n T a) {v : AV} (hv : rsOf r' T h = some v) :
    ∃ y, (resM a.tmps r).run P w = .ok y w ∧ V Γ v y := by
  cases r with
  | tmp t =>
    simp only [compR] at hc
    split at hc
    · rename_i hlt
      cases hc
      obtain ⟨y, h1, h2⟩ := ht.rel t v hlt trivial hv
      exact ⟨y, by show (pure (a.tmps.getD t undef) : Sem Value).run P w = _; rw [Array.getD_eq_getD_getElem?, h1]; simp, h2⟩
    · cases hc
  | cell x t =>
    simp only [compR] at hc
    split at hc
    · rename_i g s hg hs
      split at hc
      · rename_i hlt
        cases hc
        simp only [rsOf] at hv
        split at hv
        · rename_i b o hT
          obtain ⟨y, h1, h2⟩ := ht.rel x _ hlt trivial hT
          cases h2 with | p _ _ e he =>
          split at hv
          · rename_i l hl
            obtain ⟨z, hz, hV⟩ := load_run (P := P) hg hs hr he hl hv
            refine ⟨z, ?_, hV⟩
            show (do loadVar t (← asAddr (a.tmps.getD x undef)) : Sem Value).run P w = _
            rw [Array.getD_eq_getD_getElem?, h1]
            simp [asAddr, hz]
          · cases hv
        · cases hv
      · cases hc
    · cases hc
theorem results_run {fn : Func} {rs : List Rs} (hc : allO (compR P n) fn.results.toList = some rs) (hr : R L Γ h nx w) (ht : Full Γ n T a) {vs : List AV} (hv : rsAll rs T h = some vs) :
    ∃ y, (results fn a.tmps).run P w = .ok y w ∧ V Γ (tupOf vs) y := by
  have key : ∀ (l : List ResultVar) (rs : List Rs) (vs : List AV), allO (compR P n) l = some rs → rsAll rs T h = some vs →
      ∃ ys, (l.mapM (resM a.tmps)).run P w = .ok ys w ∧ VL Γ vs ys := by
    intro l
    induction l with
    | nil => intro rs vs hc hv; cases hc; cases hv; exact ⟨[], by simp, .nil⟩
    | cons r l ih =>
      intro rs vs hc hv
      unfold allO at hc
      split at hc
      · rename_i r' q h1 h2
        cases hc
        have hv : (match rsOf r' T h, rsAll q T h with | some v, some l => some (v :: l) | _, _ => none) = some vs := hv
        split at hv
        · rename_i v vs' h3 h4
          cases hv
          obtain ⟨y, g1, g2⟩ := rs_run h1 hr ht h3
          obtain ⟨ys, g3, g4⟩ := ih q vs' h2 h4
          refine ⟨y :: ys, ?_, .cons g2 g4⟩
          rw [List.mapM_cons, Sem.run_bind]
          rw [g1]
          simp only [Result.andThen_ok, Sem.run_bind, g3, Sem.run_pure]
        · cases hv
      · cases hc
  obtain ⟨ys, h1, h2⟩ := key _ rs vs hc hv
  have hmap : (fn.results.mapM (resM a.tmps)).run P w = .ok ys.toArray w := by
    rw [Array.mapM_eq_mapM_toList, Sem.run_map, h1]
    rfl
  rw [results_resM]
  refine ⟨_, by rw [Sem.run_bind, hmap, Result.andThen_ok, Sem.run_pure], ?_⟩
  have hl := h2.length
  cases vs with
  | nil => cases h2; exact .t [] _ .nil
  | cons v vs =>
    cases vs with
    | nil => cases h2 with | cons g t => cases t; simpa [tupOf] using g
    | cons v2 vs =>
      have hl' : ys.toArray.size ≠ 1 := by simp [hl]
      rw [dif_neg hl']
      exact .t _ _ (by simpa using h2)
end
end Go.AR
namespace Go.AR
section
variable {L : LoopOk} {Γ Γ' Γ0 : G} {h h' h0 : Tr Blk} {nx nx' nx0 : Pos} {w w' w0 : World} {a : Act} {T T' : Tr AV} {n m : Nat} {P : Program} {F : Fence} {C : Ctx} {K : Nat}
theorem zeta_deferred (hr : R L Γ h nx w) {rb : Nat} {ds : Option (List Deferred)} (hw : w.heap[rb]? = some (.deferred ds)) : (∀ k, Γ.ζ k rb = none) := by
  intro k
  cases hz : Γ.ζ k rb with
  | none => rfl
  | some ob =>
    have h1 := hr.zone k rb ob hz
    obtain ⟨C, t, rfl⟩ := hr.zcells k rb ob hz
    rw [hw] at h1; cases h1
theorem marks_leave {s : Nat} {fn : Func} {tmps : Array Value} {Rr : Ending → World → Prop} (hlow : w0.heap.size ≤ s) : ∀ {ds : List Deferred} {w : World}, Marks s Γ h w [] ds → St L Γ0 h0 nx0 w0 Γ h nx w →
    (∀ w', St L Γ0 h0 nx0 w0 Γ h nx w' → ∃ v, (results fn tmps).run P w' = .ok v w' ∧ Rr (.returned v) w') → LeavesInM F m P fn tmps Rr ds .returning w
  | [], w, _, st, hR => hR w st
  | d :: ds, w, hm, st, hR => by
    cases hm with
    | cons h1 h2 h3 h4 t =>
      rename_i r
      refine ⟨by simp, .inl ⟨r, _, rfl, run_takeDeferred h2, ?_⟩⟩
      have st' := st.set (ob := .deferred none) h3 (zeta_deferred st.rel h2) (Nat.le_trans hlow h1)
      refine marks_leave hlow ?_ st' hR
      have : ∀ {l : List Deferred}, (∀ r', ({ target := .collected r', args := #[] } : Deferred) ∈ l → r' < r) → Marks s Γ h w [] l → Marks s Γ h (w.putObj r (.deferred none)) [] l := by
        intro l hl hml
        induction hml with
        | nil => exact .nil
        | cons g1 g2 g3 g4 _ ih =>
          refine .cons g1 ?_ g3 g4 (ih (fun r' hr' => hl r' (by simp [hr'])))
          rw [World.putObj_heap_other (Nat.ne_of_lt (hl _ (by simp)))]; exact g2
      exact this h4 t
def OrcOk (P : Program) (L : LoopOk) (f : Nat) (g : List AV → Tr Blk → Pos → Res) : Prop :=
  (∃ fn c, P.funcs[f]? = some fn ∧ (fn.name == "runtime.NumGoroutine") = false ∧ fn.body = some c) ∧
  ∀ (Γ : G) (h : Tr Blk) (nx : Pos) (w : World) (vs : List AV) (args : Array Value) (v : AV) (h' : Tr Blk) (nx' : Pos), R L Γ h nx w → VL Γ vs args.toList → g vs h nx = .ok v h' nx' → Calls P f args w fun e w'' => ∃ v', e = .returned v' ∧ Upto L Γ h nx w v h' nx' v' w''
structure CtxOk (P : Program) (L : LoopOk) (C : Ctx) : Prop where
  fns : ∀ f fn', C.fns.get (pos f) = some fn' → FnOk P f fn'
  orc : ∀ f g, C.orc.get (pos f) = some g → OrcOk P L f g
theorem enter_run {f : Nat} {fn : Func} {c : Code} (hf : P.funcs[f]? = some fn) (hname : (fn.name == "runtime.NumGoroutine") = false) (hb : fn.body = some c) (args : Array Value) (w : World) : (callFunc f args).run P w = .ok (.enter f args) w := by
  have h1 : fn.name ≠ "runtime.NumGoroutine" := by simpa using hname
  simp [callFunc, hf, h1, hb]
theorem CallsIn.flat {F : Fence} {k : Nat} {f : FuncId} {args : Array Value} {w : World} {R : Ending → World → Prop} (h : CallsIn { F with round := none } k P f args w R) : CallsIn F k P f args w R := h
theorem Wide.flat (hF : Wide F) : Wide { F with round := none } := ⟨hF.fn, hF.depth, by have := hF.eq; rw [this]⟩
theorem calls_wide (hF : Wide F) {k : Nat} {f : FuncId} {args : Array Value} {w : World} {R : Ending → World → Prop} (h : CallsIn Fence.wide k P f args w R) : CallsIn F k P f args w R := by
  rw [hF.eq]; exact h
theorem callF_sound (hS : Snd P L C K) (hC : CtxOk P L C) (hF : Wide F) {f : Nat} {vs : List AV} {args : Array Value} {v : AV} (hr : R L Γ h nx w) (hv : VL Γ vs args.toList) (hx : callF C (exec C K) (pos f) vs h nx = .ok v h' nx') (ho : C.orc.get (pos f) = none) :
    CallsIn F m P f args w fun e w'' => ∃ v', e = .returned v' ∧ Upto L Γ h nx w v h' nx' v' w'' := by
  unfold callF at hx
  rw [ho] at hx
  cases hfn : C.fns.get (pos f) with
  | none => simp [hfn] at hx
  | some fn' =>
    simp only [hfn] at hx
    obtain ⟨fn, c, h1, h2, h3, h4, h5, h6⟩ := (hC.fns f fn' hfn).ok
    cases hb : bindP fn'.params vs .lf with
    | none => simp [hb] at hx
    | some T =>
      simp only [hb] at hx
      apply CallsIn.flat
      refine callsIn_of_wp_marks h1 h3 (hF.fn f) ?_
      cases hrun : exec C K fn'.body T h nx with
      | bad => rw [hrun] at hx; cases hx
      | ok e T1 h1' nx1 =>
        rw [hrun] at hx
        have hres : (e = .n ∨ e = .r) ∧ ∃ us, rsAll fn'.results T1 h1' = some us ∧ v = tupOf us ∧ h1' = h' ∧ nx1 = nx' := by
          cases e with
          | n =>
            refine ⟨.inl rfl, ?_⟩
            cases hu : rsAll fn'.results T1 h1' with
            | none => simp [retF, hu] at hx
            | some us => simp only [retF, hu] at hx; cases hx; exact ⟨us, rfl, rfl, rfl, rfl⟩
          | r =>
            refine ⟨.inr rfl, ?_⟩
            cases hu : rsAll fn'.results T1 h1' with
            | none => simp [retF, hu] at hx
            | some us => simp only [retF, hu] at hx; cases hx; exact ⟨us, rfl, rfl, rfl, rfl⟩
          | x id => simp [retF] at hx
        obtain ⟨he, us, hu, rfl, rfl, rfl⟩ := hres
        refine hS { F with round := none } m fn.ntmps true c fn'.body hF.flat (fun _ => rfl) h4 Γ T h nx _ w e T1 h1' nx1 _ hrun hr (full_enter h5 hv hb fn.ntmps) (fun _ d hd => by cases hd) ?_
        intro Γ1 a1 w1 s hf hsz hm
        have fin : LeavesInM { F with round := none } m P fn a1.tmps (fun e w'' => ∃ v', e = .returned v' ∧ Upto L Γ h nx w (tupOf us) h1' nx1 v' w'') a1.defers .returning w1 :=
          marks_leave (Nat.le_refl _) hm s fun w' s' => by
            obtain ⟨y, g1, g2⟩ := results_run h6 s'.rel hf hu
            exact ⟨y, g1, y, rfl, Γ1, s', g2⟩
        rcases he with rfl | rfl
        · exact fin
        · exact fin
end
end Go.AR
namespace Go.AR
def jumpOf : Ex → Option Code | .n => none | .x id => some (.exit id) | .r => some .ret
inductive StRel : LSt → Loop → Prop
  | ready {r : Loop} (h : r.state = .ready) (hp : r.pending = none) : StRel .ready r
  | busy {r : Loop} (h : r.state = .busy) : StRel .busy r
  | done {r : Loop} (e : Ex) (h : r.state = .done) (hp : r.pending = jumpOf e) (he : e ≠ .n) : StRel (.done e) r
structure LRec (P : Program) (n : Nat) (T : Tr AV) (ps : List Pos) (asg bd : AC) (Γ : G) (r : Loop) : Prop where
  full : Full Γ n T { tmps := r.tmps, defers := [] }
  ps : allO (fun t => compD n (some t)) r.params.toList = some (ps.map some)
  asg : CR P n false r.assign asg
  bd : CR P n false r.body bd
def LOk (P : Program) (Z : Nat → Option Obj) : LoopOk := ⟨fun T ps asg bd st Γ r => (∃ n, LRec P n T ps asg bd Γ r) ∧ StRel st r, Z⟩
theorem LOk.mono {P : Program} {Z : Nat → Option Obj} : LMono (LOk P Z) := fun _ _ _ _ _ _ _ _ hl h => let ⟨⟨n, q⟩, s⟩ := h; ⟨⟨n, q.full.mono hl, q.ps, q.asg, q.bd⟩, s⟩
section
variable {Γ Γ' Γ0 : G} {h h' h0 : Tr Blk} {nx nx' nx0 : Pos} {w w' w0 : World} {a : Act} {T T' : Tr AV} {n m : Nat} {P : Program} {F : Fence} {C : Ctx} {K : Nat}
theorem R.loop {L : LoopOk} (hr : R L Γ h nx w) {b : Pos} {e : Ext} (he : Γ.μ b = some e) {ps : List Pos} {asg bd : AC} {st : LSt} (hb : h.get b = some (.loop T ps asg bd st)) : ∃ r, w.heap[e.rb]? = some (.loop r) ∧ L T ps asg bd st Γ r := by
  obtain ⟨B, hB, hd⟩ := hr.blk b e he
  rw [hb] at hB; cases hB
  rcases hd with hd | ⟨o, ho, hrel⟩
  · cases hd
  · cases hrel with | loop _ _ _ _ _ r hl => exact ⟨r, ho, hl⟩
theorem bindP_full : ∀ {ts : List Tmp} {ps : List Pos} {vs : List AV} {args : List Value} {T0 T : Tr AV} {tm : Array Value}, allO (fun t => compD n (some t)) ts = some (ps.map some) → VL Γ vs args → bindP ps vs T0 = some T →
    Full Γ n T0 { tmps := tm, defers := [] } → args.length = ts.length ∧ Full Γ n T { tmps := (ts.zip args).foldl (fun tmps (t, a) => tmps.setIfInBounds t a) tm, defers := [] }
  | [], ps, vs, args, T0, T, tm, hp, hv, hb, hf => by
    cases ps with
    | cons _ _ => cases hp
    | nil =>
      cases vs with
      | cons _ _ => cases hb
      | nil => cases hb; cases hv; exact ⟨rfl, hf⟩
  | t :: ts, ps, vs, args, T0, T, tm, hp, hv, hb, hf => by
    unfold allO at hp
    split at hp
    · rename_i y r h1 h2
      cases ps with
      | nil => cases hp
      | cons p ps =>
        simp only [List.map_cons, Option.some.injEq, List.cons.injEq] at hp
        obtain ⟨rfl, rfl⟩ := hp
        cases vs with
        | nil => cases hb
        | cons v vs =>
          cases hv with
          | cons hv1 hv2 =>
            rename_i x args
            have hb : bindP ps vs (T0.set p v) = some T := hb
            have hf' : Full Γ n (T0.set p v) { tmps := tm.setIfInBounds t x, defers := [] } := hf.put (d := some t) (d' := some p) h1 hv1
            obtain ⟨g1, g2⟩ := bindP_full h2 hv2 hb hf'
            exact ⟨by simp [g1], g2⟩
    · cases hp
end
end Go.AR
namespace Go.AR
section
variable {Z : Nat → Option Obj} {Γ Γ' Γ0 : G} {h h' h0 : Tr Blk} {nx nx' nx0 : Pos} {w w' w0 : World} {a : Act} {T T' : Tr AV} {n m : Nat} {P : Program} {F : Fence} {C : Ctx} {K : Nat} {v : AV}
theorem R.reloop (hr : R (LOk P Z) Γ h nx w) {l : Pos} {e : Ext} (he : Γ.μ l = some e) {ps : List Pos} {asg bd : AC} {st st' : LSt} (hl : h.get l = some (.loop T ps asg bd st)) {r r' : Loop} (hw : w.heap[e.rb]? = some (.loop r))
    (h1 : r'.tmps = r.tmps) (h2 : r'.params = r.params) (h3 : r'.assign = r.assign) (h4 : r'.body = r.body) (hk : ∃ n, LRec P n T ps asg bd Γ r) (hs : StRel st' r') :
    St (LOk P Z) Γ h nx w Γ (h.set l (.loop T ps asg bd st')) nx (w.putObj e.rb (.loop r')) := by
  have hset := MapKept.heap_set (o' := .loop r') hw
  obtain ⟨n, q⟩ := hk
  refine hr.write he ⟨_, hl, by simp⟩ _ (.loop r') (by simp) (.loop T ps asg bd st' r' ⟨⟨n, by rw [h1]; exact q.full, by rw [h2]; exact q.ps, by rw [h3]; exact q.asg, by rw [h4]; exact q.bd⟩, hs⟩) hset.1 hset.2 (by simp [World.putObj]) rfl rfl rfl
theorem endRound_sound {l : Pos} {e : Ext} (hr : R (LOk P Z) Γ h nx w) (he : Γ.μ l = some e) {x : Ex} {T1 : Tr AV} (hx : endRound l (.ok x T1 h nx) = .ok v h' nx') :
    ∃ v' w', (Instr.endRound e.rb (jumpOf x)).run P w = .ok v' w' ∧ Upto (LOk P Z) Γ h nx w v h' nx' v' w' := by
  cases hl : h.get l with
  | none => cases x <;> simp [endRound, hl] at hx
  | some B =>
    cases B with
    | loop T ps asg bd st =>
      obtain ⟨r, hw, hk, hs⟩ := hr.loop he hl
      refine ⟨_, _, run_endRound (jumpOf x) hw, Γ, ?_⟩
      cases x with
      | n =>
        cases st <;> simp only [endRound, hl] at hx <;> cases hx
        exact ⟨hr.reloop he hl hw rfl rfl rfl rfl hk (.ready rfl rfl), .b true⟩
      | x id =>
        cases st <;> simp only [endRound, hl] at hx <;> cases hx
        exact ⟨hr.reloop he hl hw rfl rfl rfl rfl hk (.done (.x id) rfl rfl (by simp)), .b false⟩
      | r =>
        cases st <;> simp only [endRound, hl] at hx <;> cases hx
        exact ⟨hr.reloop he hl hw rfl rfl rfl rfl hk (.done .r rfl rfl (by simp)), .b false⟩
    | cells _ _ => cases x <;> simp [endRound, hl] at hx
    | map _ => cases x <;> simp [endRound, hl] at hx
    | dead => cases x <;> simp [endRound, hl] at hx
theorem Wide.inRound (hF : Wide F) (l : Nat) : Wide (F.inRound l) := ⟨hF.fn, hF.depth, by have := hF.eq; rw [this]; rfl⟩
theorem yield_sound (hS : Snd P (LOk P Z) C K) (hF : Wide F) {l : Pos} {e : Ext} (hr : R (LOk P Z) Γ h nx w) (he : Γ.μ l = some e) {vs : List AV} {args : Array Value} (hv : VL Γ vs args.toList) (hx : roundF (exec C K) l vs h nx = .ok v h' nx') :
    Ups F m P (Upto (LOk P Z) Γ h nx w v h' nx') ((Instr.yield e.rb args).run P w) := by
  unfold roundF at hx
  split at hx
  · rename_i T0 ps asg body hl
    split at hx
    · rename_i T hb
      split at hx
      · rename_i T1 h1 nx1 hasg
        split at hx
        · rename_i T2 ps2 asg2 body2 hl1
          obtain ⟨r, hw, ⟨n, q⟩, hs⟩ := hr.loop he hl
          obtain ⟨g1, g2⟩ := bindP_full (tm := r.tmps) q.ps hv hb q.full
          have hsz : args.size = r.params.size := by simpa using g1
          rw [run_yield hw hsz]
          have hfold : (r.params.zip args).foldl (fun tmps (t, a) => tmps.setIfInBounds t a) r.tmps = (r.params.toList.zip args.toList).foldl (fun tmps (t, a) => tmps.setIfInBounds t a) r.tmps := by
            rw [← Array.foldl_toList, Array.toList_zip]
          show RoundIn F (m - 1) P e.rb r.fn _ r.assign r.body w _
          rw [hfold]
          refine roundIn_of_wpIn (hF.fn _) ?_
          refine hS (F.inRound e.rb) (m - 1) n false r.assign asg (hF.inRound _) (fun h => by cases h) q.asg Γ T h nx _ w .n T1 h1 nx1 _ hasg hr g2 (fun h => by cases h) ?_
          intro Γ1 a1 w1 s1 hf1 hsz1 hm1
          have he1 : Γ1.μ l = some e := s1.le.μ _ _ he
          obtain ⟨r1, hw1, hk1, hs1⟩ := s1.rel.loop he1 hl1
          have hst1 : r1.state = .ready := by cases hs1; assumption
          have s2 := s1.rel.reloop (st' := .busy) (r' := { r1 with state := .busy }) he1 hl1 hw1 rfl rfl rfl rfl hk1 (.busy rfl)
          refine ⟨_, run_beginRound hw1 hst1, ?_⟩
          cases hbody : exec C K body T1 (h1.set l (.loop T2 ps2 asg2 body2 .busy)) nx1 with
          | bad => rw [hbody] at hx; cases hx
          | ok x T3 h3 nx3 =>
            rw [hbody] at hx
            refine hS (F.inRound e.rb) (m - 1) n false r.body body (hF.inRound _) (fun h => by cases h) q.bd Γ1 T1 _ nx1 a1 _ x T3 h3 nx3 _ hbody s2.rel hf1 (fun h => by cases h) ?_
            intro Γ3 a3 w3 s3 hf3 hsz3 hm3
            obtain ⟨v', w', hend, Γ4, s4, hV⟩ := endRound_sound s3.rel (s3.le.μ _ _ he1) hx
            have hall := St.trans hr (St.trans hr (St.trans hr s1 s2) s3) s4
            cases x with
            | n => exact ⟨v', w', hend, v', rfl, Γ4, hall, hV⟩
            | x id => exact ⟨v', w', hend, v', rfl, Γ4, hall, hV⟩
            | r => exact ⟨v', w', hend, v', rfl, Γ4, hall, hV⟩
        · cases hx
      · cases hx
    · cases hx
  · cases hx
end
end Go.AR
namespace Go.AR
section
variable {Z : Nat → Option Obj} {m : Nat} {P : Program} {F : Fence} {C : Ctx} {K : Nat}
theorem callV_ok (hS : Snd P (LOk P Z) C K) (hC : CtxOk P (LOk P Z) C) (hF : Wide F) : CallOk F m P (LOk P Z) (callV C (exec C K)) := by
  intro Γ h nx w f fv vs args v h' nx' hr hf hv hx
  cases hf with
  | f f c vs' hc =>
    have hx : callF C (exec C K) (pos f) (vs ++ c) h nx = .ok v h' nx' := hx
    have hrun : (do let d ← Deferred.ofValue (.func (.func f) #[] vs') args; invoke d.target d.args : Sem Next).run P w = (callFunc f (args ++ vs')).run P w := by
      simp [Deferred.ofValue, invoke]
    rw [hrun]
    have hv2 : VL Γ (vs ++ c) (args ++ vs').toList := by rw [Array.toList_append]; exact hv.append hc
    cases ho : C.orc.get (pos f) with
    | none =>
      have hcs := callF_sound (m := m - 1) hS hC hF hr hv2 hx ho
      unfold callF at hx
      rw [ho] at hx
      cases hfn : C.fns.get (pos f) with
      | none => simp [hfn] at hx
      | some fn' =>
        obtain ⟨fn, c, h1, h2, h3, _⟩ := (hC.fns f fn' hfn).ok
        rw [enter_run h1 h2 h3]
        exact hcs
    | some g =>
      obtain ⟨⟨fn, c, h1, h2, h3⟩, horc⟩ := hC.orc f g ho
      unfold callF at hx
      rw [ho] at hx
      have hx : g _ h nx = .ok v h' nx' := hx
      rw [enter_run h1 h2 h3]
      exact calls_wide hF (callsIn_wide.2 (horc Γ h nx w _ _ v h' nx' hr hv2 hx))
  | y l e he =>
    have hx : roundF (exec C K) l vs h nx = .ok v h' nx' := hx
    have hrun : (do let d ← Deferred.ofValue (.func (.yield e.rb) #[] #[]) args; invoke d.target d.args : Sem Next).run P w = (Instr.yield e.rb args).run P w := by
      simp [Deferred.ofValue, invoke]
    rw [hrun]
    exact yield_sound hS hF hr he hv hx
  | _ => cases hx
end
end Go.AR
namespace Go.AR
section
variable {Z : Nat → Option Obj} {m n : Nat} {P : Program} {F : Fence} {C : Ctx} {K : Nat} {Γ : G} {T T' : Tr AV} {h h' : Tr Blk} {nx nx' : Pos} {a : Act} {w : World} {v : AV}
theorem callF_any (hS : Snd P (LOk P Z) C K) (hC : CtxOk P (LOk P Z) C) (hF : Wide F) {f : Nat} {vs : List AV} {args : Array Value} (hr : R (LOk P Z) Γ h nx w) (hv : VL Γ vs args.toList) (hx : callF C (exec C K) (pos f) vs h nx = .ok v h' nx') :
    (callFunc f args).run P w = .ok (.enter f args) w ∧ CallsIn F m P f args w fun e w'' => ∃ v', e = .returned v' ∧ Upto (LOk P Z) Γ h nx w v h' nx' v' w'' := by
  cases ho : C.orc.get (pos f) with
  | none =>
    have hcs := callF_sound (m := m) hS hC hF hr hv hx ho
    unfold callF at hx
    rw [ho] at hx
    cases hfn : C.fns.get (pos f) with
    | none => simp [hfn] at hx
    | some fn' =>
      obtain ⟨fn, c, h1, h2, h3, _⟩ := (hC.fns f fn' hfn).ok
      exact ⟨enter_run h1 h2 h3 _ _, hcs⟩
  | some g =>
    obtain ⟨⟨fn, c, h1, h2, h3⟩, horc⟩ := hC.orc f g ho
    unfold callF at hx
    rw [ho] at hx
    have hx : g _ h nx = .ok v h' nx' := hx
    exact ⟨enter_run h1 h2 h3 _ _, calls_wide hF (callsIn_wide.2 (horc Γ h nx w _ _ v h' nx' hr hv hx))⟩
theorem rf_sound (hS : Snd P (LOk P Z) C K) (hC : CtxOk P (LOk P Z) C) (hF : Wide F) (hro : F.round = none) {f : Operand} {f' : X} {ps : Array Tmp} {pps : List Pos} {asg body : Code} {asg' body' : AC} (hc : CR P n true (.rangeFunc f ps asg body) (.rf f' pps asg' body'))
    {e : Ex} {Q : Exit → Act → World → Prop} (hx : rfR C (exec C K) (ev T f') pps asg' body' T h nx = .ok e T' h' nx') (hr : R (LOk P Z) Γ h nx w) (ht : Full Γ n T a)
    (hd : ∀ d ∈ a.defers, ∃ r, d = ({ target := .collected r, args := #[] } : Deferred) ∧ r < w.heap.size) (hQ : After (LOk P Z) Γ h nx w n a e T' h' nx' Q) : (Code.rangeFunc f ps asg body).wpIn F m P Q a w := by
  cases hc with
  | rf hf hp ha hb =>
  unfold rfR at hx
  split at hx
  · rename_i fp c hev
    have hV := compX_eval hf hev (a := a) (Γ := Γ) (fun t u hlt _ hu => ht.rel t u hlt trivial hu)
    generalize hfv : a.eval f = fv at hV
    cases hV with | f g _ cs hcs =>
    cases hcall : callF C (exec C K) (pos g) (.y nx :: c) (h.set nx (.loop T pps asg' body' .ready)) nx.succ with
    | bad => rw [hcall] at hx; cases hx
    | ok v h3 nx3 =>
      rw [hcall] at hx
      refine wpIn_rangeFunc fun fn _ => ?_
      let rec0 : Loop := { state := .ready, pending := none, fn, tmps := a.tmps, params := ps, assign := asg, body, defers := w.heap.size }
      let W := (w.alloc (.deferred (some []))).alloc (.loop rec0)
      have hsz1 : (w.alloc (.deferred (some []))).heap.size = w.heap.size + 1 := by simp
      let ex : Ext := ⟨w.heap.size + 1, 0, 0, 0, 0⟩
      have s0 := (St.refl hr).grow (.deferred (some []))
      have hrec : BlkRel (LOk P Z) (Γ.add nx ex) ex (.loop T pps asg' body' .ready) (.loop rec0) :=
        .loop T pps asg' body' .ready rec0 ⟨⟨n, (Full.mono (G.le_add ex hr.fresh) ⟨ht.size, ht.rel⟩ : Full (Γ.add nx ex) n T { tmps := a.tmps, defers := [] }), hp, ha, hb⟩, .ready rfl rfl⟩
      have s1 := s0.rel.alloc LOk.mono (.loop T pps asg' body' .ready) (.loop rec0) ex (by rw [hsz1]) (by simp) hrec
      have sW : St (LOk P Z) Γ h nx w (Γ.add nx ex) (h.set nx (.loop T pps asg' body' .ready)) nx.succ W := St.trans hr s0 s1
      have hargs : VL (Γ.add nx ex) (.y nx :: c) (#[Value.func (.yield (w.heap.size + 1)) #[] #[]] ++ cs).toList := by
        rw [Array.toList_append]
        exact .cons (.y nx ex (G.add_same _ _)) (VL.mono (G.le_add ex hr.fresh) hcs)
      obtain ⟨hent, hcs'⟩ := callF_any (m := m - 1) hS hC hF sW.rel hargs hcall
      refine ⟨w.heap.size + 1, _, W, ⟨.fn (.func g) cs, #[Value.func (.yield (w.heap.size + 1)) #[] #[]]⟩, W, g, _, W, by rw [hro]; exact run_enterLoop_outer fn a.tmps ps asg body, ?_, fun f' _ => hF.fn f', ?_, fun hdp => (by rw [hF.depth] at hdp; cases hdp), CallsIn.mono hcs' ?_⟩
      · simp only [resolve, hfv, Deferred.ofValue]
        simp [Act.eval]
      · simp only [invoke]; exact hent
      · rintro en w3 ⟨v', rfl, Γ3, s3, _⟩
        have he3 : Γ3.μ nx = some ex := s3.le.μ _ _ (G.add_same _ _)
        have hdefW : W.heap[w.heap.size]? = some (.deferred (some [])) := by
          rw [heap_alloc_lt _ (by rw [hsz1]; omega)]; exact heap_alloc_new _
        have hnoW : ¬ Owned (Γ.add nx ex) (h.set nx (.loop T pps asg' body' .ready)) w.heap.size := by
          rintro ⟨b, e', he', h1, h2⟩
          by_cases hbn : b = nx
          · subst hbn; rw [G.add_same] at he'; cases he'; simp [ex] at h1
          · rw [G.add_other ex hbn] at he'
            have := (hr.lt b e' he').2
            omega
        have key : ∀ (st : LSt), h3.get nx = some (.loop T pps asg' body' st) ∨ (∃ T2 ps2 a2 b2, h3.get nx = some (.loop T2 ps2 a2 b2 st)) → st ≠ .busy →
            ∃ r, (w3.heap[w.heap.size + 1]? = some (.loop r)) ∧ StRel st r ∧ St (LOk P Z) Γ h nx w Γ3 (h3.set nx .dead) nx3 (w3.putObj (w.heap.size + 1) (.loop { r with state := .exhausted })) ∧
              Marks w.heap.size Γ3 (h3.set nx .dead) (w3.putObj (w.heap.size + 1) (.loop { r with state := .exhausted })) a.defers ({ target := .collected w.heap.size, args := #[] } :: a.defers) := by
          intro st hst hnb
          obtain ⟨T2, ps2, a2, b2, hst⟩ : ∃ T2 ps2 a2 b2, h3.get nx = some (.loop T2 ps2 a2 b2 st) := by
            rcases hst with h | h
            · exact ⟨_, _, _, _, h⟩
            · exact h
          obtain ⟨r, hw3, _, hsr⟩ := s3.rel.loop he3 hst
          have hk := s3.rel.kill he3
          have hall := St.trans hr (St.trans hr sW s3) hk
          have hnown : ¬ Owned Γ3 (h3.set nx .dead) (w.heap.size + 1) := by
            rintro ⟨b, e', he', h1, h2⟩
            have hbn : b ≠ nx := by rintro rfl; obtain ⟨B, hB, hdd⟩ := h2; rw [Tr.get_set_same] at hB; cases hB; exact hdd rfl
            exact hbn (s3.rel.inj b e' nx ex he' he3 ((alive_set (Ne.symm hbn)).1 h2) ⟨_, hst, by simp⟩ h1)
          have hz : (∀ k, Γ3.ζ k (w.heap.size + 1) = none) := s3.rel.zfree nx ex he3 ⟨_, hst, by simp⟩
          have hset := hall.set (ob := .loop { r with state := .exhausted }) hnown hz (by omega)
          have hW1 : w.heap.size < W.heap.size := lt_of_heap hdefW
          have hkeep : w3.heap[w.heap.size]? = some (.deferred (some [])) := by rw [s3.keep _ hW1 hnoW]; exact hdefW
          refine ⟨r, hw3, hsr, hset, .cons (Nat.le_refl _) ?_ ?_ ?_ .nil⟩
          · rw [World.putObj_heap_other (by omega)]; exact hkeep
          · rintro ⟨b, e', he', h1, h2⟩
            have hbn : b ≠ nx := by rintro rfl; rw [he3] at he'; cases he'; simp [ex] at h1
            rcases Owned.back sW.rel s3 ⟨b, e', he', h1, (alive_set (Ne.symm hbn)).1 h2⟩ with h | h
            · exact hnoW h
            · omega
          · intro r' hr'
            obtain ⟨r2, q1, q2⟩ := hd _ hr'
            cases q1; exact q2
        have hfull : Full Γ3 n T { a with defers := [({ target := .collected w.heap.size, args := #[] } : Deferred)] ++ a.defers } := ⟨ht.size, ht.rel.mono (sW.le.trans s3.le)⟩
        have hx : (match h3.get nx with
          | some (.loop _ _ _ _ .ready) => SR.ok .n T (h3.set nx .dead) nx3
          | some (.loop _ _ _ _ (.done e)) => .ok e T (h3.set nx .dead) nx3
          | _ => .bad) = .ok e T' h' nx' := hx
        split at hx
        · rename_i T2 ps2 a2 b2 hg
          cases hx
          obtain ⟨r, hw3, hsr, hst, hmk⟩ := key .ready (.inr ⟨_, _, _, _, hg⟩) (by simp)
          cases hsr with | ready q1 q2 =>
          refine ⟨r.pending, _, run_endLoop hw3 (by rw [q1]; simp), ?_⟩
          rw [q2] at hst hmk ⊢
          exact hQ Γ3 _ _ hst hfull rfl hmk
        · rename_i T2 ps2 a2 b2 e2 hg
          cases hx
          obtain ⟨r, hw3, hsr, hst, hmk⟩ := key (.done e) (.inr ⟨_, _, _, _, hg⟩) (by simp)
          cases hsr with | done _ q1 q2 q3 =>
          refine ⟨r.pending, _, run_endLoop hw3 (by rw [q1]; simp), ?_⟩
          rw [q2] at hst hmk ⊢
          cases e with
          | n => exact absurd rfl q3
          | x id => exact wpIn_exit (hQ Γ3 _ _ hst hfull rfl hmk)
          | r => exact wpIn_ret (hQ Γ3 _ _ hst hfull rfl hmk)
        · cases hx
  · cases hx
end
end Go.AR
namespace Go.AR
section
variable {Z : Nat → Option Obj} {P : Program} {C : Ctx} {Γ : G} {h h' : Tr Blk} {nx nx' : Pos} {w : World} {v : AV}
theorem snd_all (hmx : P.follows .mixedOrders = true) (hC : CtxOk P (LOk P Z) C) (k : Nat) : Snd P (LOk P Z) C k := by
  induction k using Nat.strongRecOn with
  | _ k ih =>
    cases k with
    | zero => intro F m n b c c' _ _ _ Γ T h nx a w e T' h' nx' Q hx; cases hx
    | succ K =>
      refine snd_step hmx LOk.mono (fun j hj => ih j (by omega)) (fun F m hF => callV_ok (ih K (by omega)) hC hF) ?_
      intro F m n hF hro f f' ps pps asg body asg' body' hc Γ T h nx a w e T' h' nx' Q hx hr ht hd hQ
      exact rf_sound (ih K (by omega)) hC hF hro hc hx hr ht hd hQ
theorem Wide.wide : Wide Fence.wide := ⟨fun _ => trivial, rfl, rfl⟩
theorem calls_sound (hmx : P.follows .mixedOrders = true) (hC : CtxOk P (LOk P Z) C) {k f : Nat} {vs : List AV} {args : Array Value} (hr : R (LOk P Z) Γ h nx w) (hv : VL Γ vs args.toList) (hx : calls C k (pos f) vs h nx = .ok v h' nx') :
    Calls P f args w fun e w'' => ∃ v', e = .returned v' ∧ Upto (LOk P Z) Γ h nx w v h' nx' v' w'' :=
  callsIn_wide.1 (callF_any (m := 0) (snd_all hmx hC k) hC Wide.wide hr hv hx).2
end
end Go.AR
namespace Go.AR
section
variable {Z : Nat → Option Obj} {L : LoopOk} {P : Program}
mutual
theorem V.pure_to {Γ Γ' : G} {k : Bool} (h0 : ∀ r o, Γ.ζ false r = some o → Γ'.ζ false r = some o) (h1 : k = true → ∀ r o, Γ.ζ true r = some o → Γ'.ζ true r = some o) {x : AV} {v : Value} (h : V Γ x v) (hp : pu k x = true) : V Γ' x v :=
  match h with
  | .u => .u
  | .b x => .b x
  | .i k n => .i k n
  | .s l h => .s l h
  | .q n d => .q n d
  | .p b o e he => by simp [pu] at hp
  | .np => .np
  | .sl b o n c c' e he hn hc => by simp [pu] at hp
  | .ns => .ns
  | .m b e he => by simp [pu] at hp
  | .nm => .nm
  | .f f c vs h => .f f c vs (VL.pure_to h0 h1 h (by simpa [pu] using hp))
  | .nf => .nf
  | .ni => .ni
  | .g n a len cap h => .g n a len cap (h.mono h0)
  | .y l e he => by simp [pu] at hp
  | .a l vs h => .a l vs (VL.pure_to h0 h1 h (by simpa [pu] using hp))
  | .t l vs h => .t l vs (VL.pure_to h0 h1 h (by simpa [pu] using hp))
  | .z j l n x a cap vs h hr hn hx ha hq => .z j l n x a cap vs (VL.pure_to h0 h1 h (by simp [pu] at hp; exact hp.2)) (by
      simp only [pu, Bool.and_eq_true, Bool.or_eq_true, Bool.not_eq_true'] at hp
      cases j with
      | false => exact hr.mono h0
      | true => exact hr.mono (h1 (by rcases hp.1 with h | h; exact h; cases h))) hn hx ha hq
  | .zp j l rb off vs h hr hq => .zp j l rb off vs (VL.pure_to h0 h1 h (by simp [pu] at hp; exact hp.2)) (by
      simp only [pu, Bool.and_eq_true, Bool.or_eq_true, Bool.not_eq_true'] at hp
      cases j with
      | false => exact hr.mono h0
      | true => exact hr.mono (h1 (by rcases hp.1 with h | h; exact h; cases h))) hq
theorem VL.pure_to {Γ Γ' : G} {k : Bool} (h0 : ∀ r o, Γ.ζ false r = some o → Γ'.ζ false r = some o) (h1 : k = true → ∀ r o, Γ.ζ true r = some o → Γ'.ζ true r = some o) {x : List AV} {v : List Value} (h : VL Γ x v) (hp : puL k x = true) : VL Γ' x v :=
  match h with
  | .nil => .nil
  | .cons h t => .cons (V.pure_to h0 h1 h (by simp [puL] at hp; exact hp.1)) (VL.pure_to h0 h1 t (by simp [puL] at hp; exact hp.2))
end
open Classical in
noncomputable def G.still (Γ : G) (k : Bool) (h : Tr Blk) (w : World) : G :=
  ⟨fun _ => none, fun j r => match Γ.ζ j r with
    | some o => some o
    | none => if j = k ∧ ∃ b e l gr, Γ.μ b = some e ∧ e.rb = r ∧ h.get b = some (.cells l gr) then w.heap[r]? else none⟩
mutual
inductive Fz (k : Bool) (h : Tr Blk) : AV → AV → Prop
  | same (v : AV) (hv : pu k v = true) : Fz k h v v
  | room (j : Bool) (l : List AV) (n : Nat) (x : Bool) (hv : pu k (.z j l n x) = true) : Fz k h (.z j l n x) (.z j l n false)
  | nil : Fz k h .ns (.z k [] 0 false)
  | ng : Fz k h .ns (.g 0)
  | sl (b : Pos) (o n c s gr : Nat) (l l' r : List AV) (hb : h.get b = some (.cells l gr)) (hl : sub o (n * s) l = some l') (hr : FzL k h l' r) : Fz k h (.sl b o n c) (.z k r n false)
  | p (b : Pos) (o gr : Nat) (l r : List AV) (hb : h.get b = some (.cells l gr)) (hr : FzL k h (l.drop o) r) : Fz k h (.p b o) (.zp k r)
  | g (v : AV) (ds : List Nat) (x : Bool) (hk : k = false) (hz : Fz k h v (.z false (ds.map fun d => .i .u32 (Int.ofNat d)) ds.length x)) (hd : ∀ d ∈ ds, d < 4294967296) (hl : ∀ d, ds.getLast? = some d → d ≠ 0) : Fz k h v (.g (valD ds))
  | f (f : Pos) (c c' : List AV) (hc : FzL k h c c') : Fz k h (.f f c) (.f f c')
  | a (c c' : List AV) (hc : FzL k h c c') : Fz k h (.a c) (.a c')
  | t (c c' : List AV) (hc : FzL k h c c') : Fz k h (.t c) (.t c')
inductive FzL (k : Bool) (h : Tr Blk) : List AV → List AV → Prop
  | nil : FzL k h [] []
  | cons {x y : AV} {l m : List AV} (hx : Fz k h x y) (hl : FzL k h l m) : FzL k h (x :: l) (y :: m)
end
theorem still_old {Γ : G} {k : Bool} {h : Tr Blk} {w : World} {j : Bool} {r : Nat} {o : Obj} (hz : Γ.ζ j r = some o) : (Γ.still k h w).ζ j r = some o := by
  simp [G.still, hz]
theorem still_own {Γ : G} {k : Bool} {h : Tr Blk} {nx : Pos} {w : World} (hr : R L Γ h nx w) {b : Pos} {e : Ext} {l : List AV} {gr : Nat} (he : Γ.μ b = some e) (hb : h.get b = some (.cells l gr)) : (Γ.still k h w).ζ k e.rb = w.heap[e.rb]? := by
  have hz := hr.zfree b e he ⟨_, hb, by simp⟩ k
  simp only [G.still, hz]
  rw [if_pos ⟨rfl, b, e, l, gr, he, rfl, hb⟩]
theorem still_inv {Γ : G} {k : Bool} {h : Tr Blk} {nx : Pos} {w : World} (hr : R L Γ h nx w) {j : Bool} {r : Nat} {o : Obj} (hz : (Γ.still k h w).ζ j r = some o) :
    Γ.ζ j r = some o ∨ (j = k ∧ w.heap[r]? = some o ∧ (∃ C t, o = .cells C t (0, 0)) ∧ ∃ b e, Γ.μ b = some e ∧ e.rb = r ∧ alive h b) := by
  simp only [G.still] at hz
  cases h1 : Γ.ζ j r with
  | some o' => rw [h1] at hz; exact .inl hz
  | none =>
    rw [h1] at hz
    right
    simp only at hz
    split at hz
    · rename_i hq
      obtain ⟨hj, b, e, l, gr, he, rfl, hb⟩ := hq
      obtain ⟨_, C, t, _, _, _, hw, _⟩ := hr.cells he hb
      rw [hw] at hz; cases hz
      exact ⟨hj, hw, ⟨C, t, rfl⟩, b, e, he, rfl, _, hb, by simp⟩
    · cases hz
theorem digits_vals {Γ : G} : ∀ {ds : List Nat} {vs : List Value}, VL Γ (ds.map fun d => .i .u32 (Int.ofNat d)) vs → vs = ds.map fun d => .int .u32 (d : Int)
  | [], vs, h => by cases h; rfl
  | d :: ds, vs, h => by
    cases h with
    | cons h1 h2 => cases h1; rw [digits_vals h2]; rfl
section
variable {Γ : G} {k : Bool} {h : Tr Blk} {nx : Pos} {w : World}
theorem toV_sl (hr : R L Γ h nx w) {b : Pos} {o n c s gr : Nat} {l l' r : List AV} (hb : h.get b = some (.cells l gr)) (hl : sub o (n * s) l = some l') (hrr : ∀ q, VL Γ l' q → VL (Γ.still k h w) r q ∧ puL k r = true) {x : Value} (hv : V Γ (.sl b o n c) x) :
    V (Γ.still k h w) (.z k r n false) x ∧ pu k (.z k r n false) = true := by
  obtain ⟨c', e, he, rfl, hn, hc⟩ : ∃ c' e, Γ.μ b = some e ∧ x = .slice (some ⟨e.rb, e.base + o, none⟩) n c' ∧ n ≤ c ∧ (c' = c ∨ (0 < e.gr ∧ c ≤ c' ∧ o + c * e.gr = e.n ∧ o + c' * e.gr ≤ e.tot)) := by
    cases hv with | sl _ _ _ _ c' e he hn hc => exact ⟨c', e, he, rfl, hn, hc⟩
  obtain ⟨_, C, t, pre, mid, post, hw, hC, hpl, hm, _⟩ := hr.cells he hb
  obtain ⟨q, h1, h2, h3⟩ := hm.sub hl
  obtain ⟨h4, h5⟩ := hrr q h1
  refine ⟨.z k r n false _ c' q h4 (.inr ⟨e.rb, e.base + o, C, t, rfl, by rw [still_own hr he hb]; exact hw, ?_⟩) (by rcases hc with h | h <;> omega) (fun h => by cases h) (fun h => by cases h) h5, ?_⟩
  · intro j y hy
    have hy' := h3 j y hy
    have hj : o + j < mid.length := by
      rcases Nat.lt_or_ge (o + j) mid.length with hj | hj
      · exact hj
      · rw [List.getElem?_eq_none hj] at hy'; cases hy'
    rw [← Array.getElem?_toList, hC, List.append_assoc, List.getElem?_append_right (by omega), List.getElem?_append_left (by omega), hpl, show e.base + o + j - e.base = o + j by omega]
    exact hy'
  · simp only [pu, h5, Bool.and_true]; cases k <;> rfl
theorem toV_p (hr : R L Γ h nx w) {b : Pos} {o gr : Nat} {l r : List AV} (hb : h.get b = some (.cells l gr)) (hrr : ∀ q, VL Γ (l.drop o) q → VL (Γ.still k h w) r q ∧ puL k r = true) {x : Value} (hv : V Γ (.p b o) x) :
    V (Γ.still k h w) (.zp k r) x ∧ pu k (.zp k r) = true := by
  obtain ⟨e, he, rfl⟩ : ∃ e, Γ.μ b = some e ∧ x = .pointer (some ⟨e.rb, e.base + o, none⟩) := by
    cases hv with | p _ _ e he => exact ⟨e, he, rfl⟩
  obtain ⟨_, C, t, pre, mid, post, hw, hC, hpl, hm, _⟩ := hr.cells he hb
  obtain ⟨h4, h5⟩ := hrr _ (hm.drop o)
  refine ⟨.zp k r _ _ _ h4 (.inr ⟨e.rb, e.base + o, C, t, rfl, by rw [still_own hr he hb]; exact hw, ?_⟩) h5, ?_⟩
  · intro j y hy
    rw [List.getElem?_drop] at hy
    have hj : o + j < mid.length := by
      rcases Nat.lt_or_ge (o + j) mid.length with hj | hj
      · exact hj
      · rw [List.getElem?_eq_none hj] at hy; cases hy
    rw [← Array.getElem?_toList, hC, List.append_assoc, List.getElem?_append_right (by omega), List.getElem?_append_left (by omega), hpl, show e.base + o + j - e.base = o + j by omega]
    exact hy
  · simp only [pu, h5, Bool.and_true]; cases k <;> rfl
theorem toV_g {ds : List Nat} {y : Bool} {x : Value} (hd : ∀ d ∈ ds, d < 4294967296) (hl : ∀ d, ds.getLast? = some d → d ≠ 0) (hv : V Γ (.z false (ds.map fun d => .i .u32 (Int.ofNat d)) ds.length y) x) : V Γ (.g (valD ds)) x := by
  obtain ⟨a, cap, vs, rfl, h2, h3, h4, h5, h6, h7⟩ := hv.z_inv
  refine .g _ _ _ _ ⟨ds, rfl, rfl, hd, hl, ⟨h4, h6⟩, ?_⟩
  rw [digits_vals h2] at h3
  rcases h3 with h3 | ⟨rb, off, C, t, g1, g2, g3⟩
  · left; simpa using h3
  · refine .inr ⟨rb, off, C, t, g1, g2, fun j d hj => g3 j _ ?_⟩
    rw [List.getElem?_map, hj]; rfl
theorem V.f_inv {f : Pos} {c : List AV} {x : Value} (hv : V Γ (.f f c) x) : ∃ n vs, f = pos n ∧ x = .func (.func n) #[] vs ∧ VL Γ c vs.toList := by
  generalize hq : AV.f f c = q at hv
  cases hv with
  | f n c0 vs h => cases hq; exact ⟨n, vs, rfl, rfl, h⟩
  | _ => cases hq
theorem toV_both (hr : R L Γ h nx w) : (∀ v u, Fz k h v u → ∀ x, V Γ v x → V (Γ.still k h w) u x ∧ pu k u = true) ∧ (∀ v u, FzL k h v u → ∀ x, VL Γ v x → VL (Γ.still k h w) u x ∧ puL k u = true) := by
  have key := @Fz.rec k h (fun v u _ => ∀ x, V Γ v x → V (Γ.still k h w) u x ∧ pu k u = true) (fun v u _ => ∀ x, VL Γ v x → VL (Γ.still k h w) u x ∧ puL k u = true)
  have key2 := @FzL.rec k h (fun v u _ => ∀ x, V Γ v x → V (Γ.still k h w) u x ∧ pu k u = true) (fun v u _ => ∀ x, VL Γ v x → VL (Γ.still k h w) u x ∧ puL k u = true)
  have c1 : ∀ (v : AV), pu k v = true → ∀ x, V Γ v x → V (Γ.still k h w) v x ∧ pu k v = true :=
    fun v hp x hv => ⟨hv.pure_to (fun _ _ => still_old) (fun _ _ _ => still_old) hp, hp⟩
  have c2 : ∀ (j : Bool) (l : List AV) (n : Nat) (y : Bool), pu k (.z j l n y) = true → ∀ x, V Γ (.z j l n y) x → V (Γ.still k h w) (.z j l n false) x ∧ pu k (.z j l n false) = true := by
    intro j l n y hp x hv
    obtain ⟨a, cap, vs, rfl, h1, h2, h3, h4, h5, h6⟩ := (hv.pure_to (Γ' := Γ.still k h w) (fun _ _ => still_old) (fun _ _ _ => still_old) hp).z_inv
    exact ⟨.z j l n false a cap vs h1 h2 h3 (fun h => by cases h) h5 h6, by simpa [pu] using hp⟩
  have c3 : ∀ x, V Γ .ns x → V (Γ.still k h w) (.z k [] 0 false) x ∧ pu k (.z k [] 0 false) = true := by
    intro x hv; cases hv
    exact ⟨.z k [] 0 false none 0 [] .nil (.inl rfl) (Nat.le_refl _) (fun h => by cases h) (fun _ => rfl) rfl, by cases k <;> rfl⟩
  have c4 : ∀ x, V Γ .ns x → V (Γ.still k h w) (.g 0) x ∧ pu k (.g 0) = true := by
    intro x hv; cases hv
    exact ⟨.g 0 none 0 0 ⟨[], rfl, rfl, (fun d hd => by cases hd), (fun d hd => by cases hd), ⟨Nat.le_refl _, fun _ => rfl⟩, .inl rfl⟩, rfl⟩
  have c7 : ∀ (f : Pos) (c c' : List AV), FzL k h c c' → (∀ x, VL Γ c x → VL (Γ.still k h w) c' x ∧ puL k c' = true) → ∀ x, V Γ (.f f c) x → V (Γ.still k h w) (.f f c') x ∧ pu k (.f f c') = true := by
    intro f c c' _ ih x hv
    obtain ⟨n, vs, rfl, rfl, h1⟩ := hv.f_inv
    obtain ⟨h2, h3⟩ := ih _ h1
    exact ⟨.f n c' vs h2, by simpa [pu] using h3⟩
  have c8 : ∀ (c c' : List AV), FzL k h c c' → (∀ x, VL Γ c x → VL (Γ.still k h w) c' x ∧ puL k c' = true) → ∀ x, V Γ (.a c) x → V (Γ.still k h w) (.a c') x ∧ pu k (.a c') = true := by
    intro c c' _ ih x hv
    obtain ⟨vs, rfl, h1⟩ : ∃ vs, x = .agg vs ∧ VL Γ c vs.toList := by cases hv with | a _ vs h => exact ⟨vs, rfl, h⟩
    obtain ⟨h2, h3⟩ := ih _ h1
    exact ⟨.a c' vs h2, by simpa [pu] using h3⟩
  have c9 : ∀ (c c' : List AV), FzL k h c c' → (∀ x, VL Γ c x → VL (Γ.still k h w) c' x ∧ puL k c' = true) → ∀ x, V Γ (.t c) x → V (Γ.still k h w) (.t c') x ∧ pu k (.t c') = true := by
    intro c c' _ ih x hv
    obtain ⟨vs, rfl, h1⟩ : ∃ vs, x = .tuple vs ∧ VL Γ c vs.toList := by cases hv with | t _ vs h => exact ⟨vs, rfl, h⟩
    obtain ⟨h2, h3⟩ := ih _ h1
    exact ⟨.t c' vs h2, by simpa [pu] using h3⟩
  have c10 : ∀ x, VL Γ [] x → VL (Γ.still k h w) [] x ∧ puL k [] = true := by intro x hv; cases hv; exact ⟨.nil, rfl⟩
  have c11 : ∀ {x y : AV} {l m : List AV}, Fz k h x y → FzL k h l m → (∀ z, V Γ x z → V (Γ.still k h w) y z ∧ pu k y = true) → (∀ z, VL Γ l z → VL (Γ.still k h w) m z ∧ puL k m = true) → ∀ z, VL Γ (x :: l) z → VL (Γ.still k h w) (y :: m) z ∧ puL k (y :: m) = true := by
    intro x y l m _ _ i1 i2 z hv
    cases hv with
    | cons g1 g2 =>
      obtain ⟨a1, a2⟩ := i1 _ g1
      obtain ⟨b1, b2⟩ := i2 _ g2
      exact ⟨.cons a1 b1, by simp [puL, a2, b2]⟩
  have d1 := fun v u hf => key c1 c2 c3 c4 (fun b o n c s gr l l' r hb hl _ ih x hv => toV_sl hr hb hl ih hv) (fun b o gr l r hb _ ih x hv => toV_p hr hb ih hv)
    (fun v ds y hk _ hd hl ih x hv => ⟨toV_g hd hl (ih x hv).1, rfl⟩) c7 c8 c9 c10 c11 (hf : Fz k h v u)
  have d2 := fun v u hf => key2 c1 c2 c3 c4 (fun b o n c s gr l l' r hb hl _ ih x hv => toV_sl hr hb hl ih hv) (fun b o gr l r hb _ ih x hv => toV_p hr hb ih hv)
    (fun v ds y hk _ hd hl ih x hv => ⟨toV_g hd hl (ih x hv).1, rfl⟩) c7 c8 c9 c10 c11 (hf : FzL k h v u)
  exact ⟨fun v u hf => d1 v u hf, fun v u hf => d2 v u hf⟩
theorem Fz.toV (hr : R L Γ h nx w) {v u : AV} (hf : Fz k h v u) {x : Value} (hv : V Γ v x) : V (Γ.still k h w) u x ∧ pu k u = true := (toV_both hr).1 v u hf x hv
theorem FzL.toV (hr : R L Γ h nx w) {v u : List AV} (hf : FzL k h v u) {x : List Value} (hv : VL Γ v x) : VL (Γ.still k h w) u x ∧ puL k u = true := (toV_both hr).2 v u hf x hv
end
def PureOk (P : Program) (L : LoopOk) (f : Nat) (us : List AV) (r : AV) : Prop :=
  ∀ (Γ : G) (w : World) (args : Array Value), (∀ b, Γ.μ b = none) → R L Γ .lf .h w → VL Γ us args.toList →
    Calls P f args w fun e w' => ∃ x Γ' h' nx' v, e = .returned x ∧ St L Γ .lf .h w Γ' h' nx' w' ∧ V Γ' v x ∧ Fz false h' v r
theorem still_R {Γ : G} {k : Bool} {h : Tr Blk} {nx : Pos} {w : World} (hr : R L Γ h nx w) : R L (Γ.still k h w) .lf .h w := by
  refine ⟨fun b e he => by simp [G.still] at he, fun b e he => by simp [G.still] at he, fun b e b' e' he => by simp [G.still] at he, ?_, fun b e he => by simp [G.still] at he, ?_, fun r o hz => still_old (hr.base r o hz)⟩
  · intro j r o hz
    rcases still_inv hr hz with h1 | ⟨_, h1, _⟩
    · exact hr.zone j r o h1
    · exact h1
  · intro j r o hz
    rcases still_inv hr hz with h1 | ⟨_, _, h1, _⟩
    · exact hr.zcells j r o h1
    · exact h1
theorem pure_call (hL : LMono L) {f : Nat} {us : List AV} {r : AV} (hp : PureOk P L f us r) {Γ : G} {h : Tr Blk} {nx : Pos} {w : World} (hr : R L Γ h nx w) {vs : List AV} {args : Array Value} (hv : VL Γ vs args.toList) (hf : FzL true h vs us) :
    Calls P f args w fun e w' => ∃ x, e = .returned x ∧ Upto L Γ h nx w r h nx x w' := by
  obtain ⟨h1, _⟩ := hf.toV hr hv
  refine (hp (Γ.still true h w) w args (fun _ => rfl) (still_R hr) h1).mono ?_
  rintro e w' ⟨x, Γ', h', nx', v, rfl, hst, hV, hz⟩
  obtain ⟨h2, h3⟩ := hz.toV hst.rel hV
  have hno : ∀ r, ¬ Owned (Γ.still true h w) .lf r := by rintro r ⟨b, e, he, _⟩; simp [G.still] at he
  have hkeep : ∀ r, r < w.heap.size → w'.heap[r]? = w.heap[r]? := fun r hlt => hst.keep r hlt (hno r)
  let Γp : G := ⟨Γ.μ, fun j r => match j with | true => Γ.ζ true r | false => (Γ'.still false h' w').ζ false r⟩
  have hle : Γ.le Γp := by
    refine ⟨fun _ _ h => h, fun j r o hz => ?_⟩
    cases j with
    | true => exact hz
    | false => exact still_old (hst.le.ζ false r o (still_old hz))
  have hnewz : ∀ r o, (Γ'.still false h' w').ζ false r = some o → Γ.ζ false r = none → w.heap.size ≤ r := by
    intro r o hz hn
    rcases still_inv hst.rel hz with g | ⟨_, _, _, b, e, he, rfl, ha⟩
    · refine hst.zfresh false r o ?_ g
      cases hc : (Γ.still true h w).ζ false r with
      | none => rfl
      | some o' =>
        rcases still_inv hr hc with g' | ⟨g', _⟩
        · rw [hn] at g'; cases g'
        · cases g'
    · rcases (hst.fresh b e rfl he).2 with g | g
      · exact g
      · exact absurd g (hno _)
  refine ⟨x, rfl, Γp, ⟨hle, ⟨?_, ?_, hr.inj, ?_, ?_, ?_, fun r o hz => hle.ζ false r o (hr.base r o hz)⟩, hst.os, hst.tape, hst.output, hst.size, fun r hlt _ => hkeep r hlt, ?_, fun _ h _ => h, fun _ _ _ => rfl, Nat.le_refl _, ?_⟩, ?_⟩
  · intro b e he
    obtain ⟨B, hB, hd⟩ := hr.blk b e he
    refine ⟨B, hB, hd.imp id fun ⟨o, g1, g2⟩ => ⟨o, ?_, g2.mono hL hle⟩⟩
    rw [hkeep _ (lt_of_heap g1)]; exact g1
  · intro b e he; obtain ⟨g1, g2⟩ := hr.lt b e he; exact ⟨g1, Nat.lt_of_lt_of_le g2 hst.size⟩
  · intro j r o hz
    cases j with
    | true =>
      have g := hr.zone true r o hz
      rw [hkeep _ (lt_of_heap g)]; exact g
    | false =>
      rcases still_inv hst.rel hz with g | ⟨_, g, _⟩
      · exact hst.rel.zone false r o g
      · exact g
  · intro b e he ha j
    cases j with
    | true => exact hr.zfree b e he ha true
    | false =>
      show (Γ'.still false h' w').ζ false e.rb = none
      cases hz : (Γ'.still false h' w').ζ false e.rb with
      | none => rfl
      | some o =>
        have := hnewz _ _ hz (hr.zfree b e he ha false)
        have := (hr.lt b e he).2
        omega
  · intro j r o hz
    cases j with
    | true => exact hr.zcells true r o hz
    | false =>
      rcases still_inv hst.rel hz with g | ⟨_, _, g, _⟩
      · exact hst.rel.zcells false r o g
      · exact g
  · intro b e g1 g2; rw [show Γp.μ b = Γ.μ b from rfl, g1] at g2; cases g2
  · intro j r o g1 g2
    cases j with
    | true => rw [show Γp.ζ true r = Γ.ζ true r from rfl, g1] at g2; cases g2
    | false => exact hnewz r o g2 g1
  · exact V.pure_to (Γ := Γ'.still false h' w') (Γ' := Γp) (k := false) (fun _ _ h => h) (fun h => by cases h) h2 h3
theorem orc_pure (hL : LMono L) {f : Nat} {g : List AV → Tr Blk → Pos → Res} (hb : ∃ fn c, P.funcs[f]? = some fn ∧ (fn.name == "runtime.NumGoroutine") = false ∧ fn.body = some c)
    (hg : ∀ vs h nx v h' nx', g vs h nx = .ok v h' nx' → h' = h ∧ nx' = nx ∧ ∃ us, FzL true h vs us ∧ PureOk P L f us v) : OrcOk P L f g := by
  refine ⟨hb, ?_⟩
  intro Γ h nx w vs args v h' nx' hr hv hx
  obtain ⟨rfl, rfl, us, h1, h2⟩ := hg vs h nx v h' nx' hx
  exact pure_call hL h2 hr hv h1
theorem pure_of_calls (hmx : P.follows .mixedOrders = true) {C : Ctx} (hC : CtxOk P (LOk P Z) C) {k f : Nat} {us : List AV} {v r : AV} {h' : Tr Blk} {nx' : Pos} (hx : calls C k (pos f) us .lf .h = .ok v h' nx') (hz : Fz false h' v r) : PureOk P (LOk P Z) f us r := by
  intro Γ w args hμ hr hv
  refine (calls_sound hmx hC hr hv hx).mono ?_
  rintro e w' ⟨x, rfl, Γ', hst, hV⟩
  exact ⟨x, Γ', h', nx', v, rfl, hst, hV, hz⟩
end
end Go.AR
namespace Go.AR
open Go.Proofs Go.RowKit Go.Shelf
section
variable {Z : Nat → Option Obj} {L : LoopOk} {P : Program} {Γ : G} {h : Tr Blk} {nx : Pos} {w w' : World}
theorem below_St (hr : R L Γ h nx w) (hb : Below w.heap.size w w') : St L Γ h nx w Γ h nx w' := by
  have hk : ∀ r, r < w.heap.size → w'.heap[r]? = w.heap[r]? := fun r h => hb.block r h
  refine ⟨.refl Γ, ⟨?_, ?_, hr.inj, ?_, hr.zfree, hr.zcells, hr.base⟩, hb.os, hb.tape, hb.output, hb.size, fun r hlt _ => hk r hlt, fun b e h1 h2 => (by rw [h1] at h2; cases h2), fun _ h _ => h, fun _ _ _ => rfl, Nat.le_refl _, fun k r o h1 h2 => (by rw [h1] at h2; cases h2)⟩
  · intro b e he
    obtain ⟨B, hB, hd⟩ := hr.blk b e he
    refine ⟨B, hB, hd.imp id fun ⟨o, g1, g2⟩ => ⟨o, ?_, g2⟩⟩
    rw [hk _ (lt_of_heap g1)]; exact g1
  · intro b e he; obtain ⟨g1, g2⟩ := hr.lt b e he; exact ⟨g1, Nat.lt_of_lt_of_le g2 hb.size⟩
  · intro k r o hz
    have g := hr.zone k r o hz
    rw [hk _ (lt_of_heap g)]; exact g
theorem bytes_data (l : List Nat) : (bytesOf l).data.toList = l.map UInt8.ofNat := by simp [bytesOf]
theorem bytes_size (l : List Nat) : (bytesOf l).size = l.length := by simp [bytesOf, ByteArray.size]
def nb (q : List UInt8) : List Nat := q.map UInt8.toNat
theorem nb_bytes (q : List UInt8) : bytesOf (nb q) = ⟨q.toArray⟩ := by
  unfold bytesOf nb
  congr 2
  rw [List.map_map]
  conv => rhs; rw [← List.map_id q]
  apply List.map_congr_left
  intro x _
  simp
theorem nb_lt (q : List UInt8) : ∀ x ∈ nb q, x < 256 := by
  intro x hx
  obtain ⟨y, _, rfl⟩ := List.mem_map.1 hx
  exact y.toNat_lt
theorem V.nb (q : List UInt8) : V Γ (.s (nb q)) (.string ⟨q.toArray⟩) := by
  rw [← nb_bytes]; exact .s _ (nb_lt q)
theorem V.s_inv {l : List Nat} {x : Value} (hv : V Γ (.s l) x) : x = .string (bytesOf l) ∧ ∀ y ∈ l, y < 256 := by
  cases hv with | s _ hl => exact ⟨rfl, hl⟩
theorem V.i_inv {k : IntKind} {n : Int} {x : Value} (hv : V Γ (.i k n) x) : x = .int k n := by cases hv; rfl
theorem args_eq {args : Array Value} {l : List Value} (h : args.toList = l) : args = l.toArray := by rw [← h]
end
structure ZOk (Z : Nat → Option Obj) : Prop where
  maxLen : ∃ C t m, Z (Tryz.lCut_ren.g 1) = some (.cells C t (0, 0)) ∧ C[0]? = some (.int .i64 m)
  pow10 : ∃ r C t, Tryz.prog.globalNamed "internal/strconv.uint64pow10" = some r ∧ Z r = some (.cells C t (0, 0)) ∧ C = (Lib.pow10Tab.map fun z => Value.int .u64 z).toArray
  zeros : ∃ C t, Z (Tryz.lZeros_ren.g 1) = some (.cells C t (0, 0)) ∧ ∀ j, j < Lib.deBruijn64tab.length → C[j]? = some (.int .u8 (Lib.deBruijn64tab.getD j 0))
section
variable {Z : Nat → Option Obj} {P : Program} {Γ : G} {h : Tr Blk} {nx : Pos} {w w' : World}
theorem base_heap (hr : R (LOk P Z) Γ h nx w) {r : Nat} {o : Obj} (hz : Z r = some o) : w.heap[r]? = some o := hr.zone false r o (hr.base r o hz)
theorem cell_heap {r j : Nat} {C : Array Value} {t : TypeId} {x : Value} (hw : w.heap[r]? = some (.cells C t (0, 0))) (hx : C[j]? = some x) : w.cell? ⟨r, j, none⟩ = some x := by
  unfold World.cell?
  simp [hw, hx]
theorem below_drewN (n : Nat) : Below w.heap.size w (w.drewN n) := ⟨rfl, rfl, rfl, Nat.le_refl _, fun _ _ => rfl⟩
theorem below_grow (n : Nat) (os : Array Obj) : Below w.heap.size w (Sort.grow (w.drewN n) os) :=
  ⟨rfl, rfl, rfl, by show w.heap.size ≤ (w.heap ++ os).size; rw [Array.size_append]; omega, fun k hk => by show (w.heap ++ os)[k]? = _; rw [Array.getElem?_append_left hk]⟩
theorem below_bytes (t : TypeId) (s : ByteArray) : Below w.heap.size w (Lib.bytesWorld w t s) :=
  ⟨rfl, rfl, rfl, by simp [Lib.bytesWorld, World.freeze, World.alloc, World.drew, -World.alloc_eq, -World.drew_eq], fun k hk => Lib.bytesWorld_at_old w t s k hk⟩
end
def orcCut (vs : List AV) (h : Tr Blk) (nx : Pos) : Res :=
  match vs with
  | [.s s, .s p] => bif Nat.blt s.length 4294967281 then .ok (.t [.s (nb (Lib.cut (s.map UInt8.ofNat) (p.map UInt8.ofNat)).1), .s (nb (Lib.cut (s.map UInt8.ofNat) (p.map UInt8.ofNat)).2.1), .b (Lib.cut (s.map UInt8.ofNat) (p.map UInt8.ofNat)).2.2]) h nx else .bad
  | _ => .bad
theorem orcCut_ok {Z : Nat → Option Obj} (hZ : ZOk Z) : OrcOk Tryz.prog (LOk Tryz.prog Z) 117 orcCut := by
  refine ⟨⟨_, _, Tryz.func117, by kernel_rfl, rfl⟩, ?_⟩
  intro Γ h nx w vs args v h' nx' hr hv hx
  unfold orcCut at hx
  split at hx
  · rename_i s p
    cases hs : Nat.blt s.length 4294967281 with
    | false => rw [hs] at hx; cases hx
    | true =>
      rw [hs] at hx
      cases hx
      obtain ⟨a, b, e, h1, h2⟩ := hv.inv2
      obtain ⟨rfl, _⟩ := h1.s_inv
      obtain ⟨rfl, _⟩ := h2.s_inv
      rw [args_eq e]
      obtain ⟨C, t, m, hz, hc⟩ := hZ.maxLen
      have hlt : s.length < 4294967281 := by rw [← Nat.blt_eq]; exact hs
      have := Any.strings_Cut Tryz.lCut (bytesOf s) (bytesOf p) m w (by rw [bytes_size]; exact hlt) (cell_heap (base_heap hr hz) hc)
      refine (show Calls Tryz.prog 117 _ w _ from this).mono ?_
      rintro e w' ⟨rfl, n, rfl⟩
      refine ⟨_, rfl, Γ, below_St hr (below_drewN n), ?_⟩
      rw [bytes_data, bytes_data]
      exact .t _ _ (.cons (V.nb _) (.cons (V.nb _) (.cons (.b _) .nil)))
  · cases hx
theorem Tryz.extra : Builder.Extra Tryz.prog Tryz.lRepeat_ren where
  sizeBuilder := by kernel_rfl
  liesBuilder := by kernel_rfl
  t5 := Tryz.lRepeat.t5
  a5 := Tryz.lRepeat.a5
  z5 := Tryz.lRepeat.z5
  v5 := Tryz.lRepeat.v5
  infoByte := by kernel_rfl
  cellsByte := by kernel_rfl
  sizeByte := by kernel_rfl
  neB5 := by decide
def repN (l : List Nat) (n : Nat) : List Nat := Nat.rec [] (fun _ r => l ++ r) n
theorem repN_eq (l : List Nat) (n : Nat) : bytesOf (repN l n) = ⟨(Lib.repeatL (l.map UInt8.ofNat) n).toArray⟩ := by
  have : (repN l n).map UInt8.ofNat = Lib.repeatL (l.map UInt8.ofNat) n := by
    induction n with
    | zero => rfl
    | succ n ih =>
      show (l ++ repN l n).map UInt8.ofNat = _ ++ _
      rw [List.map_append, ih]
  unfold bytesOf
  rw [this]
theorem repN_lt {l : List Nat} (hl : ∀ x ∈ l, x < 256) (n : Nat) : ∀ x ∈ repN l n, x < 256 := by
  induction n with
  | zero => intro x hx; cases hx
  | succ n ih =>
    intro x hx
    rcases List.mem_append.1 (show x ∈ l ++ repN l n from hx) with hx | hx
    · exact hl x hx
    · exact ih x hx
def orcRepeat (vs : List AV) (h : Tr Blk) (nx : Pos) : Res :=
  match vs with
  | [.s s, .i .i64 (.ofNat n)] => bif Nat.blt n 1000000 && Nat.blt s.length 1000000 then .ok (.s (repN s n)) h nx else .bad
  | _ => .bad
theorem orcRepeat_ok {Z : Nat → Option Obj} : OrcOk Tryz.prog (LOk Tryz.prog Z) 124 orcRepeat := by
  refine ⟨⟨_, _, Tryz.func124, by kernel_rfl, rfl⟩, ?_⟩
  intro Γ h nx w vs args v h' nx' hr hv hx
  unfold orcRepeat at hx
  split at hx
  · rename_i s n
    cases hs : (Nat.blt n 1000000 && Nat.blt s.length 1000000) with
    | false => rw [hs] at hx; cases hx
    | true =>
      rw [hs] at hx
      cases hx
      simp only [Bool.and_eq_true, Nat.blt_eq] at hs
      obtain ⟨a, b, e, h1, h2⟩ := hv.inv2
      obtain ⟨rfl, hl⟩ := h1.s_inv
      cases h2.i_inv
      rw [args_eq e]
      have hm : s.length * n ≤ 1000000 * 1000000 := Nat.mul_le_mul (by omega) (by omega)
      have := Any.strings_Repeat Tryz.lRepeat Tryz.extra (bytesOf s) n w (by omega) (by rw [bytes_size]; omega)
      refine (show Calls Tryz.prog 124 _ w _ from this).mono ?_
      rintro e w' ⟨rfl, hb⟩
      refine ⟨_, rfl, Γ, below_St hr hb, ?_⟩
      rw [bytes_data, ← repN_eq]
      exact .s _ (repN_lt hl n)
  · cases hx
def decN (f : Nat) : Nat → List Nat → List Nat :=
  Nat.rec (fun _ r => r) (fun _ ih u r => bif Nat.blt u 10 then (48 + u) :: r else ih (u / 10) ((48 + u % 10) :: r)) f
theorem decN_eq : ∀ (f u : Nat) (r : List Nat), u < f → (decN f u r).map UInt8.ofNat = Lib.decDigits u ++ r.map UInt8.ofNat
  | 0, u, r, h => by omega
  | f + 1, u, r, h => by
    show (bif Nat.blt u 10 then (48 + u) :: r else decN f (u / 10) ((48 + u % 10) :: r)).map UInt8.ofNat = _
    rw [Lib.decDigits]
    by_cases hu : u < 10
    · rw [show Nat.blt u 10 = true from by rw [Nat.blt_eq]; exact hu, dif_pos hu]; rfl
    · rw [show Nat.blt u 10 = false from by cases hq : Nat.blt u 10 with | false => rfl | true => rw [Nat.blt_eq] at hq; exact absurd hq hu, dif_neg hu, cond_false, decN_eq f _ _ (by omega), List.map_cons, List.append_assoc]; rfl
theorem decN_lt : ∀ (f u : Nat) (r : List Nat), (∀ x ∈ r, x < 256) → ∀ x ∈ decN f u r, x < 256
  | 0, u, r, h => h
  | f + 1, u, r, h => by
    show ∀ x ∈ (bif Nat.blt u 10 then (48 + u) :: r else decN f (u / 10) ((48 + u % 10) :: r)), x < 256
    cases hq : Nat.blt u 10 with
    | true =>
      rw [Nat.blt_eq] at hq
      intro x hx
      rcases List.mem_cons.1 hx with rfl | hx
      · omega
      · exact h x hx
    | false =>
      refine decN_lt f _ _ (fun x hx => ?_)
      rcases List.mem_cons.1 hx with rfl | hx
      · omega
      · exact h x hx
def orcItoa (vs : List AV) (h : Tr Blk) (nx : Pos) : Res :=
  match vs with
  | [.i .i64 (.ofNat n)] => bif Nat.blt n 9223372036854775807 then .ok (.s (decN (n + 1) n [])) h nx else .bad
  | _ => .bad
theorem orcItoa_ok {Z : Nat → Option Obj} (hZ : ZOk Z) : OrcOk Tryz.prog (LOk Tryz.prog Z) 123 orcItoa := by
  refine ⟨⟨_, _, Tryz.func123, by kernel_rfl, rfl⟩, ?_⟩
  intro Γ h nx w vs args v h' nx' hr hv hx
  unfold orcItoa at hx
  split at hx
  · rename_i n
    cases hs : Nat.blt n 9223372036854775807 with
    | false => rw [hs] at hx; cases hx
    | true =>
      rw [hs] at hx
      cases hx
      rw [Nat.blt_eq] at hs
      obtain ⟨a, e, h1⟩ := hv.inv1
      cases h1.i_inv
      rw [args_eq e]
      obtain ⟨r, C, t, hg, hz, rfl⟩ := hZ.pow10
      have htab : Lib.TabIs Tryz.prog w "internal/strconv.uint64pow10" .u64 Lib.pow10Tab := by
        unfold Lib.TabIs World.var?
        rw [hg, Option.bind_some, base_heap hr hz]
      have := Any.strconv_Itoa Tryz.lItoa (Int.ofNat n) (by simp) (by simp; omega) w htab
      refine (show Calls Tryz.prog 123 _ w _ from this).mono ?_
      rintro e w' ⟨rfl, k, os, rfl⟩
      refine ⟨_, rfl, Γ, below_St hr (below_grow k os), ?_⟩
      have hd : Lib.itoa (Int.ofNat n) = (decN (n + 1) n []).map UInt8.ofNat := by
        rw [decN_eq _ _ _ (Nat.lt_succ_self n)]
        simp [Lib.itoa]
      rw [hd]
      exact .s _ (decN_lt _ _ _ (fun x hx => by cases hx))
  · cases hx
end Go.AR
namespace Go.AR
open Go.ChangeShapes Go.WideShapes Go.RowKit Go.WideElems
def gZ (Z : Nat → Option Obj) : G := ⟨fun _ => none, fun k r => match k with | false => Z r | true => none⟩
theorem gZ_R {P : Program} {Z : Nat → Option Obj} {W : World} (hZ : ∀ r o, Z r = some o → W.heap[r]? = some o ∧ ∃ C t, o = .cells C t (0, 0)) : R (LOk P Z) (gZ Z) .lf .h W := by
  refine ⟨fun b e he => (by cases he), fun b e he => (by cases he), fun b e b' e' he => (by cases he), ?_, fun b e he => (by cases he), ?_, fun r o hz => hz⟩
  · intro k r o hz
    cases k with
    | false => exact (hZ r o hz).1
    | true => cases hz
  · intro k r o hz
    cases k with
    | false => exact (hZ r o hz).2
    | true => cases hz
theorem st_below {L : LoopOk} {Γ Γ' : G} {W W' : World} {h' : Tr Blk} {nx' : Pos} (hμ : ∀ b, Γ.μ b = none) (s : St L Γ .lf .h W Γ' h' nx' W') : Below W.heap.size W W' :=
  ⟨s.os, s.tape, s.output, s.size, fun k hk => s.keep k hk (by rintro ⟨b, e, he, _⟩; rw [hμ] at he; cases he)⟩
theorem below_kept {W W' : World} (hb : Below W.heap.size W W') (may : MemPlace → Prop) : W.keptBut W' may := by
  refine ⟨hb.os, hb.output, fun i hi => ?_⟩
  rw [hb.block i hi]
  cases W.heap[i]? with
  | none => rfl
  | some o => cases o <;> first | rfl | exact ⟨rfl, rfl, rfl, fun _ _ => rfl⟩ | exact .inr ⟨rfl, rfl⟩
section
variable {H : Type} {enc : TypeId × Value → H} {P : Program}
theorem below_trodAll (hl : laidOutB P = true) {W W' : World} (hb : Below W.heap.size W W') {sp : Nat → Bool} : ∀ {ts : List TypeId} {vs : List Value} {ds : List (DataW H)} {ps : List MemPlace},
    (∀ t ∈ ts, P.readableRec t = true ∧ t < P.types.size) → DataW.TrodAll enc P W 0 (fun _ => true) true ts vs ds ps → (∀ x ∈ ps, x.block < W.heap.size) → (∀ x ∈ ps, sp x.block = true) → DataW.TrodAll enc P W' 0 sp true ts vs ds ps
  | [], vs, ds, ps, _, h, _, _ => by
    obtain ⟨rfl, rfl, rfl⟩ := trodAll_nil h
    exact rfl
  | t :: ts, vs, ds, ps, ht, h, hlt, hsp => by
    obtain ⟨v, vs1, d, ds1, a, b, rfl, rfl, rfl, h1, h2⟩ := trodAll_cons h
    have h1' := Trod_stays (W' := W') (sp' := sp) hl (ht t (by simp)).1 (ht t (by simp)).2 h1 (fun x hx => hb.same (hlt x (by simp [hx]))) (fun x hx => hsp x (by simp [hx]))
    exact ⟨a, b, h1', below_trodAll hl hb (fun t h => ht t (by simp [h])) h2 (fun x hx => hlt x (by simp [hx])) (fun x hx => hsp x (by simp [hx])), rfl⟩
theorem below_frozen {W W' : World} (hb : Below W.heap.size W W') {a : Addr} (ha : a.block < W.heap.size) : W'.frozen? a = W.frozen? a := by
  unfold World.frozen?
  rw [hb.block a.block ha]
theorem pure_post {Z : Nat → Option Obj} {f : Nat} {fn : Func} {us : List AV} {s : ChangeSpec} {apart fresh handsOn again : Bool} {W : World} {args : Array Value} {ds : List (DataW H)} {before : List MemPlace} {t : TypeId}
    (hl : laidOutB P = true) (hp : PureOk P (LOk P Z) f us (.b true))
    (hZ : ∀ r o, Z r = some o → W.heap[r]? = some o ∧ ∃ C t, o = .cells C t (0, 0)) (hu : VL (gZ Z) us args.toList)
    (hv : s.vars = []) (hW : DataW.Whole enc P fn.params.toList s.vars apart W args.toList ds [] before)
    (hrd : ∀ t ∈ fn.params.toList, P.readableRec t = true ∧ t < P.types.size)
    (hr : fn.resultTypes = #[t]) (ht : P.underlying t = some .bool)
    (hfn : s.fn H (ds ++ []) = { results := [.lit (.bool true)], args := ds, vars := [] }) :
    Calls P f args W fun e W' => ∃ v, e = .returned v ∧ s.post enc P fn apart fresh handsOn again W args v W' := by
  refine (hp (gZ Z) W args (fun _ => rfl) (gZ_R hZ) hu).mono ?_
  rintro e W' ⟨x, Γ', h', nx', v, rfl, hst, hV, hz⟩
  obtain ⟨h2, _⟩ := hz.toV hst.rel hV
  obtain rfl : x = .bool true := by cases h2; rfl
  have hb := st_below (fun _ => rfl) hst
  have hlt := hW.lt
  have hW0 := hW
  obtain ⟨p, q, hA, hQ, rfl, hfz, hnd⟩ := hW0
  rw [hv] at hQ
  obtain rfl : q = [] := (trodVars_none hQ).2
  have hlt' : ∀ x ∈ p, x.block < W.heap.size := fun x hx => hlt x (by simp [hx])
  have hres : ∀ (b : Nat) (sp : Nat → Bool) (hd : Bool), DataW.TrodAll enc P W' b sp hd fn.resultTypes.toList ((Value.bool true).resultList fn.resultTypes.size) (s.fn H (ds ++ [])).results [] := by
    intro b sp hd
    rw [hr, hfn]
    exact trodAll_mk1 (shut_bool ht true)
  have hargs : ∀ sp : Nat → Bool, (∀ x ∈ p, sp x.block = true) → DataW.TrodAll enc P W' 0 sp true fn.params.toList args.toList (s.fn H (ds ++ [])).args p := by
    intro sp hsp
    rw [hfn]
    exact below_trodAll hl hb hrd hA hlt' hsp
  have hvars : ∀ sp : Nat → Bool, DataW.TrodVars enc P W' sp s.vars (s.fn H (ds ++ [])).vars [] := by
    intro sp
    rw [hv, hfn]
    exact rfl
  refine ⟨_, rfl, ds, [], _, [], p, [], hW, hres _ _ _, hargs _ (fun x hx => by simpa using hlt' x hx), hvars _, below_kept hb _, fun _ => ⟨?_, _, _, ([] ++ p) ++ [], ⟨[] ++ p, [], trodAll_append (hargs _ (fun _ _ => rfl)) (hres _ _ _), hvars _, rfl, ?_, ?_⟩, ?_⟩⟩
  · exact ok_one hr rfl (okWide_bool_mk ht _)
  · intro b off hx
    rw [below_frozen hb (hlt' (.cell b off) (by simpa using hx))]
    exact hfz b off (by simpa using hx)
  · intro ha
    have := hnd ha
    simpa using this
  · intro x hx _
    simpa using hx
theorem handed_shaped {C : Checked} {os : Os} {f : FuncId} {fn : Func} {s : ChangeSpec} {conds : List PathCond} {apart fresh handsOn again : Bool} {X : World → Array Value → Prop}
    (hX : ∀ (w w' : World) (args : Array Value), w.heap = w'.heap → X w args → X w' args)
    (own : ownKnob C.prog.godebug = none) (started : os.Started) (noInit : C.prog.inits.idxOf? f = none) (hfn : C.prog.funcs[f]? = some fn)
    (witness : ∃ (w : World) (tape : Tape) (i : Input), w.os = os ∧ (w.forCall tape i).Shaped C.prog ∧ i.vars = [] ∧ Input.okWide C.prog (w.forCall tape i) .any w.heap.size f i ∧
      ((s.pre enc C.prog fn conds apart (w.forCall tape i).memory i.args ∧ X (w.forCall tape i).memory i.args) ∧ sizedMet enc C.prog fn (OpenSpec.ofChange s) apart (w.forCall tape i).memory i.args) ∧ Assume.holds {} C.prog (lone (Frame.enter C.prog f i.args .normal) [] (w.forCall tape i)))
    (contract : ∀ (W : World) (base : Nat) (args : Array Value) (ds gs : List (DataW H)) (before : List MemPlace), W.ShapedOpen C.prog →
      (∀ (j : Nat) t v, fn.params[j]? = some t → args[j]? = some v → Value.okWide C.prog W .any base t v) →
      DataW.Whole enc C.prog fn.params.toList s.vars apart W args.toList ds gs before →
      X W args →
      Calls C.prog f args W fun e W' => ∃ v, e = .returned v ∧ s.post enc C.prog fn apart fresh handsOn again W args v W') :
    ReturnsInHanded {} C os f .any (fun w args => (s.pre enc C.prog fn conds apart w args ∧ X w args) ∧ sizedMet enc C.prog fn (OpenSpec.ofChange s) apart w args) (s.post enc C.prog fn apart fresh handsOn again) := by
  refine returnsInHanded_of_calls own started noInit witness ?_
  intro w tape i _ hsh _ hok hpre hholds
  obtain ⟨_, _, _, fn', hfn', _, _, _, _, hval⟩ := hok
  have e : fn' = fn := Option.some.inj (hfn'.symm.trans hfn)
  subst e
  obtain ⟨⟨⟨ds, gs, before, hw, hc⟩, hx⟩, hz⟩ := hpre
  have hw' := DataW.Whole.of_heap (w' := w.forCall tape i) (by rfl) hw
  refine (contract (w.forCall tape i) w.heap.size i.args ds gs before hsh hval hw' (hX _ _ _ (by rfl) hx)).mono fun e W' ⟨v, he, hp⟩ => ?_
  subst he
  exact ChangeSpec.post_blind hp
end
end Go.AR
set_option maxRecDepth 100000
namespace Go.AR
open Go.Proofs Go.Proofs.YtjchghbmniifgaaGreatDoor
noncomputable section
def laidL : List (String × DataW Unit) := Rows.clearanceNormsRow.laid
theorem zipO {P : Program} {W : World} {g : Nat} (h : W.ShapedOpen P) (hg : g < P.globals.size) {t : TypeId} (hz : (((begin P (fun _ _ => 0) default).world.heap[g]?).bind Obj.row?).map (·.2) = some t) :
    ∃ cs, W.heap[g]? = some (.cells cs t (0, 0)) ∧ (P.buildable t = true → Row.ok P W .any 0 t cs) := by
  obtain ⟨⟨zero, t'⟩, h1, h2⟩ := Option.map_eq_some_iff.1 hz
  have h2 : t' = t := h2
  subst h2
  obtain ⟨cs, k1, k2, k3⟩ := h.1 g zero t' hg h1
  exact ⟨cs, k1, k3⟩
def zoneOf (W : World) : Nat → Option Obj := fun r => if r = 0 ∨ r = 5 ∨ r = 6 then W.heap[r]? else none
theorem gPow : Tryz.prog.globalNamed "internal/strconv.uint64pow10" = some 5 := by kernel_rfl
theorem gDeb : Tryz.prog.globalNamed "math/bits.deBruijn64tab" = some 6 := by kernel_rfl
theorem tPow : (Tryz.prog.globals[5]?).map (·.type) = some 399 := by kernel_rfl
theorem tDeb : (Tryz.prog.globals[6]?).map (·.type) = some 403 := by kernel_rfl
theorem nGlob : Tryz.prog.globals.size = 8 := by kernel_rfl
theorem z0 : (((begin Tryz.prog (fun _ _ => 0) default).world.heap[0]?).bind Obj.row?).map (·.2) = some 3 := by kernel_rfl
theorem z5 : (((begin Tryz.prog (fun _ _ => 0) default).world.heap[5]?).bind Obj.row?).map (·.2) = some 399 := by kernel_rfl
theorem z6 : (((begin Tryz.prog (fun _ _ => 0) default).world.heap[6]?).bind Obj.row?).map (·.2) = some 403 := by kernel_rfl
theorem bl3 : Tryz.prog.buildable 3 = true := by kernel_rfl
theorem ct3 : Tryz.prog.cellTypes Tryz.prog.depth 3 = some [3] := by kernel_rfl
theorem sz0 : ((((begin Tryz.prog (fun _ _ => 0) default).world.heap[0]?).bind Obj.row?).map (·.1.size)) = some 1 := by kernel_rfl
theorem dataDeb {H : Type} : (Rows.laid_math_bits_deBruijn64tab : DataW H) = Lib.tabData .u8 (Lib.deBruijn64tab.map fun (n : Nat) => (n : Int)) := rfl
theorem dataPow {H : Type} : (Rows.laid_internal_strconv_uint64pow10 : DataW H) = Lib.tabData .u64 Lib.pow10Tab := rfl
theorem zone_ok {W : World} (hs : W.ShapedOpen Tryz.prog) (hL : laidMetH Tryz.prog laidL W) : ZOk (zoneOf W) ∧ ∀ r o, zoneOf W r = some o → W.heap[r]? = some o ∧ ∃ C t, o = .cells C t (0, 0) := by
  rw [MakeChecks.laidMetH_plain _ _ _ (by kernel_rfl)] at hL
  have l1 := laidMet.tail hL
  have e1 := Lib.tabIs_of_head gDeb tDeb Tryz.underlying403 Tryz.underlying5 (by kernel_rfl) (by kernel_rfl) (show laidMet Tryz.prog (("math/bits.deBruijn64tab", Lib.tabData .u8 (Lib.deBruijn64tab.map fun (n : Nat) => (n : Int))) :: _) W from l1)
  have l2 := laidMet.tail l1
  have e2 := Lib.tabIs_of_head gPow tPow Tryz.underlying399 Tryz.underlying185 (by kernel_rfl) (by kernel_rfl) (show laidMet Tryz.prog (("internal/strconv.uint64pow10", Lib.tabData .u64 Lib.pow10Tab) :: _) W from l2)
  obtain ⟨c0, k0, r0⟩ := zipO hs (by rw [nGlob]; decide) z0
  obtain ⟨c5, k5, _⟩ := zipO hs (by rw [nGlob]; decide) z5
  obtain ⟨c6, k6, _⟩ := zipO hs (by rw [nGlob]; decide) z6
  have hz : ∀ r o, zoneOf W r = some o → W.heap[r]? = some o ∧ ∃ C t, o = .cells C t (0, 0) := by
    intro r o h
    unfold zoneOf at h
    split at h
    · rename_i hr
      refine ⟨h, ?_⟩
      rcases hr with rfl | rfl | rfl
      · rw [k0] at h; cases h; exact ⟨_, _, rfl⟩
      · rw [k5] at h; cases h; exact ⟨_, _, rfl⟩
      · rw [k6] at h; cases h; exact ⟨_, _, rfl⟩
    · cases h
  unfold Lib.TabIs World.var? at e1 e2
  rw [gDeb] at e1
  rw [gPow] at e2
  simp only [Option.bind_some, k6, k5, Option.some.injEq] at e1 e2
  refine ⟨⟨?_, ?_, ?_⟩, hz⟩
  · obtain ⟨ts, h1, ⟨n, h2⟩, h3⟩ := r0 bl3
    rw [ct3] at h1
    obtain rfl : [3] = ts := Option.some.inj h1
    have hsz : c0.size = 1 := by
      obtain ⟨⟨zero, t'⟩, g1, g2⟩ := Option.map_eq_some_iff.1 sz0
      obtain ⟨cs, q1, q2, _⟩ := hs.1 0 zero t' (by rw [nGlob]; decide) g1
      rw [k0] at q1
      cases q1
      exact q2.trans g2
    have hv : c0[0]? = some c0[0] := Array.getElem?_eq_getElem (by omega)
    obtain ⟨u, hu, hok⟩ := h3 0 _ hv
    obtain rfl : 3 = u := by simpa using hu
    unfold Cell.ok at hok
    rw [Tryz.underlying3] at hok
    cases hc : c0[0] with
    | int k m =>
      rw [hc] at hok hv
      obtain ⟨rfl, _⟩ := hok
      exact ⟨c0, 3, m, (by show zoneOf W 0 = _; unfold zoneOf; rw [if_pos (.inl rfl)]; exact k0), hv⟩
    | _ => rw [hc] at hok; exact hok.elim
  · exact ⟨5, c5, 399, gPow, (by unfold zoneOf; rw [if_pos (.inr (.inl rfl))]; exact k5), e2⟩
  · refine ⟨c6, 403, (by show zoneOf W 6 = _; unfold zoneOf; rw [if_pos (.inr (.inr rfl))]; exact k6), fun j hj => ?_⟩
    rw [e1]
    simp [hj, List.getD_eq_getElem?_getD]
theorem flat_size {P : Program} {W : World} {r : Reach} {b : Nat} {t : TypeId} {v : Value} {ts : List TypeId} (ht : match P.underlying t with | some (.struct _) | some (.array _ _) => True | _ => False) (hl : P.cellsOf t = ts.length)
    (hv : Value.okWide P W r b t v) : ∃ cs : Array Value, v = .agg cs ∧ cs.size = ts.length ∧ Row.okWide P W r b t cs := by
  unfold Value.okWide at hv
  split at hv
  · obtain ⟨cs, rfl, h1, h2⟩ := hv; exact ⟨cs, rfl, h1.trans hl, h2⟩
  · obtain ⟨cs, rfl, h1, h2⟩ := hv; exact ⟨cs, rfl, h1.trans hl, h2⟩
  · rename_i h1 h2
    split at ht
    · rename_i fs hu; exact absurd hu (h1 _)
    · rename_i n e hu; exact absurd hu (h2 _ _)
    · exact ht.elim
theorem flat_ok {P : Program} {W : World} {r : Reach} {b : Nat} {t : TypeId} {v : Value} {ts : List TypeId} (ht : match P.underlying t with | some (.struct _) | some (.array _ _) => True | _ => False)
    (hc : P.cellTypes P.depth t = some ts) (hl : P.cellsOf t = ts.length) (hv : Value.okWide P W r b t v) :
    ∃ cs : Array Value, v = .agg cs ∧ ∀ (i : Nat) (u : TypeId), ts[i]? = some u → ∃ x, cs[i]? = some x ∧ Cell.okWide P W r b u x := by
  obtain ⟨cs, rfl, h1, ts', h2, _, h4⟩ := flat_size ht hl hv
  rw [hc] at h2
  obtain rfl := Option.some.inj h2
  refine ⟨cs, rfl, fun i u hi => ?_⟩
  have hlt : i < ts.length := (List.getElem?_eq_some_iff.1 hi).1
  have hx : cs[i]? = some cs[i] := Array.getElem?_eq_getElem (by omega)
  obtain ⟨u', h5, h6⟩ := h4 i _ hx
  rw [Nat.mod_eq_of_lt hlt, hi] at h5
  obtain rfl := Option.some.inj h5
  exact ⟨_, hx, h6⟩
theorem cell_int {P : Program} {W : World} {r : Reach} {b : Nat} {u : TypeId} {k : IntKind} {x : Value} (hu : P.underlying u = some (.int k)) (h : Cell.okWide P W r b u x) : ∃ n, x = .int k n ∧ k.has n := by
  unfold Cell.okWide at h
  rw [hu] at h
  simp only at h
  unfold Cell.ok at h
  rw [hu] at h
  cases x with
  | int k' n => obtain ⟨rfl, h⟩ := h; exact ⟨n, rfl, h⟩
  | _ => exact h.elim
theorem laid_met (os : Os) (args : Array Value) : laidMetH Tryz.prog laidL ((World.laidAll Tryz.prog os laidL).forCall (fun _ _ => 0) ⟨#[], args, []⟩).memory := by
  rw [MakeChecks.laidMetH_plain _ _ _ (by kernel_rfl)]
  exact laidMet_laidAll _ (by kernel_rfl) (by kernel_rfl)
theorem ownKn : ownKnob Tryz.prog.godebug = none := by kernel_rfl
theorem laidOk : laidOutB Tryz.prog = true := by kernel_rfl
end
noncomputable section
def RunLe (r r' : AC → Tr AV → Tr Blk → Pos → SR) : Prop := ∀ c T h nx e T' h' nx', r c T h nx = .ok e T' h' nx' → r' c T h nx = .ok e T' h' nx'
def CallLe (f g : AV → List AV → Tr Blk → Pos → Res) : Prop := ∀ x vs h nx v h' nx', f x vs h nx = .ok v h' nx' → g x vs h nx = .ok v h' nx'
section
variable {C : Ctx} {r r' : AC → Tr AV → Tr Blk → Pos → SR} {cl cl' : AV → List AV → Tr Blk → Pos → Res} {h h' : Tr Blk} {nx nx' : Pos} {v : AV} {T T' : Tr AV} {e : Ex}
theorem callF_le (hr : RunLe r r') {f : Pos} {vs : List AV} (hx : callF C r f vs h nx = .ok v h' nx') : callF C r' f vs h nx = .ok v h' nx' := by
  unfold callF at hx ⊢
  cases ho : C.orc.get f with
  | some g => simpa [ho] using hx
  | none =>
    simp only [ho] at hx ⊢
    cases hf : C.fns.get f with
    | none => simp [hf] at hx
    | some fn =>
      simp only [hf] at hx ⊢
      cases hb : bindP fn.params vs .lf with
      | none => simp [hb] at hx
      | some T =>
        simp only [hb] at hx ⊢
        cases hq : r fn.body T h nx with
        | bad => rw [hq] at hx; cases hx
        | ok e T1 h1 nx1 => rw [hr _ _ _ _ _ _ _ _ hq]; rw [hq] at hx; exact hx
theorem endRound_le {l : Pos} {q q' : SR} (hq : ∀ e T h nx, q = .ok e T h nx → q' = .ok e T h nx) (hx : endRound l q = .ok v h' nx') : endRound l q' = .ok v h' nx' := by
  cases hq0 : q with
  | bad => rw [hq0] at hx; cases hx
  | ok e T h nx => rw [hq _ _ _ _ hq0]; rw [hq0] at hx; exact hx
theorem callV_le (hr : RunLe r r') : CallLe (callV C r) (callV C r') := by
  intro x vs h nx v h' nx' hx
  cases x <;> try (cases hx; done)
  case f f c => exact callF_le hr hx
  case y l =>
    have hx : roundF r l vs h nx = .ok v h' nx' := hx
    show roundF r' l vs h nx = .ok v h' nx'
    unfold roundF at hx ⊢
    split at hx
    · rename_i T0 ps asg body hl
      split at hx
      · rename_i T hb
        cases ha : r asg T h nx with
        | bad => simp [ha] at hx
        | ok e T1 h1 nx1 =>
          rw [hr _ _ _ _ _ _ _ _ ha]
          simp only [ha] at hx
          cases e with
          | n =>
            simp only at hx ⊢
            split at hx
            · rename_i T0' ps' asg' body' hl'
              exact endRound_le (fun e T h nx hq => hr _ _ _ _ _ _ _ _ hq) hx
            · cases hx
          | x _ => simp at hx
          | r => simp at hx
      · cases hx
    · cases hx
theorem exV_le (hc : CallLe cl cl') {c : OC} {vs : List AV} (hx : exV cl c vs h nx = .ok v h' nx') : exV cl' c vs h nx = .ok v h' nx' := by
  cases c <;> try exact hx
  case call f => exact hc _ _ _ _ _ _ _ hx
  case callv =>
    cases vs with
    | nil => cases hx
    | cons f vs => exact hc _ _ _ _ _ _ _ hx
theorem exOp_le (hc : CallLe cl cl') {o : Op} (hx : exOp cl o T h nx = .ok v h' nx') : exOp cl' o T h nx = .ok v h' nx' := by
  unfold exOp at hx ⊢
  cases hw : wantG T o.g with
  | none => simp [hw] at hx
  | some b =>
    cases b with
    | false => simpa [hw] using hx
    | true =>
      simp only [hw] at hx ⊢
      cases he : evs T o.asx with
      | none => simp [he] at hx
      | some vs => simp only [he] at hx ⊢; exact exV_le hc hx
theorem exOps_le (hc : CallLe cl cl') : ∀ {l : List Op} {T : Tr AV} {h : Tr Blk} {nx : Pos}, exOps cl l T h nx = .ok e T' h' nx' → exOps cl' l T h nx = .ok e T' h' nx'
  | [], _, _, _, hx => hx
  | o :: l, T, h, nx, hx => by
    obtain ⟨v, h1, nx1, g1, g2⟩ := exOps_cons hx
    show (Res.casesOn (exOp cl' o T h nx) .bad (fun v h nx => exOps cl' l (setD o.d v T) h nx) : SR) = _
    rw [exOp_le hc g1]
    exact exOps_le hc g2
theorem exSts_le (hc : CallLe cl cl') : ∀ {l : List (List It × List It × Option It)} {T : Tr AV} {h : Tr Blk} {nx : Pos}, exSts cl l T h nx = .ok e T' h' nx' → exSts cl' l T h nx = .ok e T' h' nx'
  | [], _, _, _, hx => hx
  | s :: l, T, h, nx, hx => by
    obtain ⟨L, A, H⟩ := s
    have hx : (match exIts L T h nx with
      | .ok _ T h nx => bif again A T h nx then (match H with | some x => (match exOp cl x.o T h nx with | .ok v h nx => exSts cl l (setD x.o.d v T) h nx | .bad => .bad) | none => exSts cl l T h nx) else .bad
      | .bad => .bad) = .ok e T' h' nx' := hx
    show (match exIts L T h nx with
      | .ok _ T h nx => bif again A T h nx then (match H with | some x => (match exOp cl' x.o T h nx with | .ok v h nx => exSts cl' l (setD x.o.d v T) h nx | .bad => .bad) | none => exSts cl' l T h nx) else .bad
      | .bad => .bad) = .ok e T' h' nx'
    cases h1 : exIts L T h nx with
    | bad => rw [h1] at hx; cases hx
    | ok e1 T1 h1' nx1 =>
      simp only [h1] at hx ⊢
      cases hg : again A T1 h1' nx1 with
      | false => simp [hg] at hx
      | true =>
        simp only [hg, cond_true] at hx ⊢
        cases H with
        | none => exact exSts_le hc hx
        | some x =>
          simp only at hx ⊢
          cases hq : exOp cl x.o T1 h1' nx1 with
          | bad => simp [hq] at hx
          | ok v h2 nx2 => rw [exOp_le hc hq]; simp only [hq] at hx; exact exSts_le hc hx
theorem exec1_le (hr : RunLe r r') : RunLe (exec1 C r) (exec1 C r') := by
  intro c T h nx e T' h' nx' hx
  have seqR_le : ∀ {k k' : Tr AV → Tr Blk → Pos → SR} {q q' : SR}, (∀ T h nx, k T h nx = .ok e T' h' nx' → k' T h nx = .ok e T' h' nx') → (∀ e T h nx, q = .ok e T h nx → q' = .ok e T h nx) → seqR k q = .ok e T' h' nx' → seqR k' q' = .ok e T' h' nx' := by
    intro k k' q q' hk hq hx
    cases hq0 : q with
    | bad => rw [hq0] at hx; cases hx
    | ok e1 T1 h1 nx1 =>
      rw [hq _ _ _ _ hq0]; rw [hq0] at hx
      cases e1 with
      | n => exact hk _ _ _ hx
      | x _ => exact hx
      | r => exact hx
  cases c with
  | skip => exact hx
  | reg ops => exact exOps_le (callV_le hr) hx
  | dreg st => exact exSts_le (callV_le hr) hx
  | seq a b => exact seqR_le (fun _ _ _ h => hr _ _ _ _ _ _ _ _ h) (fun _ _ _ _ h => hr _ _ _ _ _ _ _ _ h) hx
  | cond x a b =>
    have hx : condR (ev T x) (r a T h nx) (r b T h nx) = .ok e T' h' nx' := hx
    show condR (ev T x) (r' a T h nx) (r' b T h nx) = .ok e T' h' nx'
    unfold condR at hx ⊢
    split at hx
    · exact hr _ _ _ _ _ _ _ _ hx
    · exact hr _ _ _ _ _ _ _ _ hx
    · cases hx
  | block id a =>
    have hx : blkR id (r a T h nx) = .ok e T' h' nx' := hx
    show blkR id (r' a T h nx) = .ok e T' h' nx'
    cases hq : r a T h nx with
    | bad => rw [hq] at hx; cases hx
    | ok e1 T1 h1 nx1 => rw [hr _ _ _ _ _ _ _ _ hq]; rw [hq] at hx; exact hx
  | loop a => exact seqR_le (fun _ _ _ h => hr _ _ _ _ _ _ _ _ h) (fun _ _ _ _ h => hr _ _ _ _ _ _ _ _ h) hx
  | exit id => exact hx
  | ret => exact hx
  | rf x ps asg body =>
    have hx : rfR C r (ev T x) ps asg body T h nx = .ok e T' h' nx' := hx
    show rfR C r' (ev T x) ps asg body T h nx = .ok e T' h' nx'
    unfold rfR at hx ⊢
    split at hx
    · rename_i f c he
      cases hq : callF C r f (.y nx :: c) (h.set nx (.loop T ps asg body .ready)) nx.succ with
      | bad => rw [hq] at hx; cases hx
      | ok v1 h1 nx1 => rw [callF_le hr hq]; rw [hq] at hx; exact hx
    · cases hx
theorem exec_le : ∀ (k : Nat), RunLe (exec C k) (exec C (k + 1))
  | 0 => fun c T h nx e T' h' nx' hx => by cases hx
  | k + 1 => exec1_le (exec_le k)
theorem exec_mono {k j : Nat} (hkj : k ≤ j) : RunLe (exec C k) (exec C j) := by
  induction hkj with
  | refl => exact fun _ _ _ _ _ _ _ _ h => h
  | step _ ih => exact fun _ _ _ _ _ _ _ _ h => exec_le _ _ _ _ _ _ _ _ _ (ih _ _ _ _ _ _ _ _ h)
end
abbrev Post := Ex → Tr AV → Tr Blk → Pos → Prop
def Ends (C : Ctx) (c : AC) (Q : Post) (T : Tr AV) (h : Tr Blk) (nx : Pos) : Prop := ∃ k e T' h' nx', exec C k c T h nx = .ok e T' h' nx' ∧ Q e T' h' nx'
def Comes (C : Ctx) (f : AV) (vs : List AV) (h : Tr Blk) (nx : Pos) (K : AV → Tr Blk → Pos → Prop) : Prop := ∃ k v h' nx', callV C (exec C k) f vs h nx = .ok v h' nx' ∧ K v h' nx'
def okR (r : Res) (K : AV → Tr Blk → Pos → Prop) : Prop := match r with | .ok v h nx => K v h nx | .bad => False
def wpV (C : Ctx) (c : OC) (vs : List AV) (h : Tr Blk) (nx : Pos) (K : AV → Tr Blk → Pos → Prop) : Prop :=
  match c, vs with
  | .call f, vs => Comes C (.f f []) vs h nx K
  | .callv, v :: vs => Comes C v vs h nx K
  | c, vs => okR (exV noCall c vs h nx) K
def wpOp (C : Ctx) (o : Op) (T : Tr AV) (h : Tr Blk) (nx : Pos) (K : AV → Tr Blk → Pos → Prop) : Prop :=
  match wantG T o.g with
  | some true => (match evs T o.asx with | some vs => wpV C o.c vs h nx K | none => False)
  | some false => K .u h nx
  | none => False
def wpOps (C : Ctx) : List Op → (Tr AV → Tr Blk → Pos → Prop) → Tr AV → Tr Blk → Pos → Prop
  | [], Q, T, h, nx => Q T h nx
  | o :: l, Q, T, h, nx => wpOp C o T h nx fun v h nx => wpOps C l Q (setD o.d v T) h nx
def wpIts : List It → (Tr AV → Tr Blk → Pos → Prop) → Tr AV → Tr Blk → Pos → Prop
  | [], Q, T, h, nx => Q T h nx
  | x :: l, Q, T, h, nx => okR (exOp noCall x.o T h nx) fun v h nx => wpIts l Q (setD x.o.d v T) h nx
def wpSts (C : Ctx) : List (List It × List It × Option It) → (Tr AV → Tr Blk → Pos → Prop) → Tr AV → Tr Blk → Pos → Prop
  | [], Q, T, h, nx => Q T h nx
  | (L, A, H) :: l, Q, T, h, nx => wpIts L (fun T h nx => again A T h nx = true ∧ (match H with | some x => wpOp C x.o T h nx fun v h nx => wpSts C l Q (setD x.o.d v T) h nx | none => wpSts C l Q T h nx)) T h nx
def wp (C : Ctx) : AC → Post → Tr AV → Tr Blk → Pos → Prop
  | .skip, Q, T, h, nx => Q .n T h nx
  | .reg ops, Q, T, h, nx => wpOps C ops (Q .n) T h nx
  | .dreg st, Q, T, h, nx => wpSts C st (Q .n) T h nx
  | .seq a b, Q, T, h, nx => wp C a (fun e T h nx => match e with | .n => wp C b Q T h nx | .x j => Q (.x j) T h nx | .r => Q .r T h nx) T h nx
  | .cond x a b, Q, T, h, nx => (match ev T x with | some (.b true) => wp C a Q T h nx | some (.b false) => wp C b Q T h nx | _ => False)
  | .block id a, Q, T, h, nx => wp C a (fun e T h nx => match e with | .n => Q .n T h nx | .x j => (bif Nat.beq j id then Q .n T h nx else Q (.x j) T h nx) | .r => Q .r T h nx) T h nx
  | .loop a, Q, T, h, nx => Ends C (.loop a) Q T h nx
  | .exit id, Q, T, h, nx => Q (.x id) T h nx
  | .ret, Q, T, h, nx => Q .r T h nx
  | .rf x ps asg body, Q, T, h, nx => Ends C (.rf x ps asg body) Q T h nx
section
variable {C : Ctx} {h : Tr Blk} {nx : Pos} {T : Tr AV}
theorem okR_inv {r : Res} {K : AV → Tr Blk → Pos → Prop} (hx : okR r K) : ∃ v h nx, r = .ok v h nx ∧ K v h nx := by
  cases r with
  | bad => exact hx.elim
  | ok v h nx => exact ⟨v, h, nx, rfl, hx⟩
theorem noCall_le (cl : AV → List AV → Tr Blk → Pos → Res) : CallLe noCall cl := fun x vs h nx v h' nx' hx => by cases hx
theorem wpOp_sound {o : Op} {K : AV → Tr Blk → Pos → Prop} (hx : wpOp C o T h nx K) : ∃ k v h' nx', exOp (callV C (exec C k)) o T h nx = .ok v h' nx' ∧ K v h' nx' := by
  unfold wpOp at hx
  cases hw : wantG T o.g with
  | none => simp [hw] at hx
  | some b =>
    cases b with
    | false => simp only [hw] at hx; exact ⟨0, _, _, _, by simp [exOp, hw], hx⟩
    | true =>
      simp only [hw] at hx
      cases he : evs T o.asx with
      | none => simp [he] at hx
      | some vs =>
        simp only [he] at hx
        have key : ∃ k v h' nx', exV (callV C (exec C k)) o.c vs h nx = .ok v h' nx' ∧ K v h' nx' := by
          generalize hc : o.c = c at hx
          unfold wpV at hx
          split at hx
          · obtain ⟨k, v, h', nx', g1, g2⟩ := hx
            exact ⟨k, v, h', nx', g1, g2⟩
          · obtain ⟨k, v, h', nx', g1, g2⟩ := hx
            exact ⟨k, v, h', nx', g1, g2⟩
          · obtain ⟨v, h', nx', g1, g2⟩ := okR_inv hx
            exact ⟨0, v, h', nx', exV_le (noCall_le _) g1, g2⟩
        obtain ⟨k, v, h', nx', g1, g2⟩ := key
        exact ⟨k, v, h', nx', by simp only [exOp, hw, he]; exact g1, g2⟩
theorem wpOps_sound {Q : Tr AV → Tr Blk → Pos → Prop} : ∀ {l : List Op} {T : Tr AV} {h : Tr Blk} {nx : Pos}, wpOps C l Q T h nx → ∃ k T' h' nx', exOps (callV C (exec C k)) l T h nx = .ok .n T' h' nx' ∧ Q T' h' nx'
  | [], T, h, nx, hx => ⟨0, T, h, nx, rfl, hx⟩
  | o :: l, T, h, nx, hx => by
    obtain ⟨k, v, h1, nx1, g1, g2⟩ := wpOp_sound hx
    obtain ⟨k2, T', h', nx', g3, g4⟩ := wpOps_sound g2
    refine ⟨max k k2, T', h', nx', ?_, g4⟩
    show (Res.casesOn (exOp (callV C (exec C (max k k2))) o T h nx) .bad (fun v h nx => exOps (callV C (exec C (max k k2))) l (setD o.d v T) h nx) : SR) = _
    rw [exOp_le (callV_le (exec_mono (Nat.le_max_left k k2))) g1]
    exact exOps_le (callV_le (exec_mono (Nat.le_max_right k k2))) g3
theorem wpIts_sound {Q : Tr AV → Tr Blk → Pos → Prop} : ∀ {l : List It} {T : Tr AV} {h : Tr Blk} {nx : Pos}, wpIts l Q T h nx → ∃ T' h' nx', exIts l T h nx = .ok .n T' h' nx' ∧ Q T' h' nx'
  | [], T, h, nx, hx => ⟨T, h, nx, rfl, hx⟩
  | x :: l, T, h, nx, hx => by
    obtain ⟨v, h1, nx1, g1, g2⟩ := okR_inv hx
    obtain ⟨T', h', nx', g3, g4⟩ := wpIts_sound g2
    refine ⟨T', h', nx', ?_, g4⟩
    show (Res.casesOn (exOp noCall x.o T h nx) .bad (fun v h nx => exIts l (setD x.o.d v T) h nx) : SR) = _
    rw [g1]; exact g3
theorem wpSts_sound {Q : Tr AV → Tr Blk → Pos → Prop} : ∀ {l : List (List It × List It × Option It)} {T : Tr AV} {h : Tr Blk} {nx : Pos}, wpSts C l Q T h nx → ∃ k T' h' nx', exSts (callV C (exec C k)) l T h nx = .ok .n T' h' nx' ∧ Q T' h' nx'
  | [], T, h, nx, hx => ⟨0, T, h, nx, rfl, hx⟩
  | (L, A, H) :: l, T, h, nx, hx => by
    obtain ⟨T1, h1, nx1, g1, g2, g3⟩ := wpIts_sound hx
    cases H with
    | none =>
      obtain ⟨k, T', h', nx', g4, g5⟩ := wpSts_sound g3
      refine ⟨k, T', h', nx', ?_, g5⟩
      show (match exIts L T h nx with
        | .ok _ T h nx => bif again A T h nx then (match (none : Option It) with | some x => (match exOp (callV C (exec C k)) x.o T h nx with | .ok v h nx => exSts (callV C (exec C k)) l (setD x.o.d v T) h nx | .bad => .bad) | none => exSts (callV C (exec C k)) l T h nx) else .bad
        | .bad => .bad) = _
      simp only [g1, g2, cond_true]; exact g4
    | some x =>
      obtain ⟨k, v, h2, nx2, g4, g5⟩ := wpOp_sound g3
      obtain ⟨k2, T', h', nx', g6, g7⟩ := wpSts_sound g5
      refine ⟨max k k2, T', h', nx', ?_, g7⟩
      show (match exIts L T h nx with
        | .ok _ T h nx => bif again A T h nx then (match some x with | some x => (match exOp (callV C (exec C (max k k2))) x.o T h nx with | .ok v h nx => exSts (callV C (exec C (max k k2))) l (setD x.o.d v T) h nx | .bad => .bad) | none => exSts (callV C (exec C (max k k2))) l T h nx) else .bad
        | .bad => .bad) = _
      simp only [g1, g2, cond_true, exOp_le (callV_le (exec_mono (Nat.le_max_left k k2))) g4]
      exact exSts_le (callV_le (exec_mono (Nat.le_max_right k k2))) g6
theorem Ends.mono {c : AC} {Q Q' : Post} (hx : Ends C c Q T h nx) (hq : ∀ e T h nx, Q e T h nx → Q' e T h nx) : Ends C c Q' T h nx := by
  obtain ⟨k, e, T', h', nx', g1, g2⟩ := hx
  exact ⟨k, e, T', h', nx', g1, hq _ _ _ _ g2⟩
theorem Ends.seq {a b : AC} {Q : Post} (hx : Ends C a (fun e T h nx => match e with | .n => Ends C b Q T h nx | .x j => Q (.x j) T h nx | .r => Q .r T h nx) T h nx) : Ends C (.seq a b) Q T h nx := by
  obtain ⟨k, e, T1, h1, nx1, g1, g2⟩ := hx
  cases e with
  | n =>
    obtain ⟨k2, e, T', h', nx', g3, g4⟩ := g2
    refine ⟨max k k2 + 1, e, T', h', nx', ?_, g4⟩
    show seqR (exec C (max k k2) b) (exec C (max k k2) a T h nx) = _
    rw [exec_mono (Nat.le_max_left k k2) _ _ _ _ _ _ _ _ g1]
    exact exec_mono (Nat.le_max_right k k2) _ _ _ _ _ _ _ _ g3
  | x j => exact ⟨k + 1, .x j, T1, h1, nx1, by show seqR (exec C k b) (exec C k a T h nx) = _; rw [g1]; rfl, g2⟩
  | r => exact ⟨k + 1, .r, T1, h1, nx1, by show seqR (exec C k b) (exec C k a T h nx) = _; rw [g1]; rfl, g2⟩
theorem Ends.loop {a : AC} {Q : Post} (hx : Ends C a (fun e T h nx => match e with | .n => Ends C (.loop a) Q T h nx | .x j => Q (.x j) T h nx | .r => Q .r T h nx) T h nx) : Ends C (.loop a) Q T h nx := by
  obtain ⟨k, e, T1, h1, nx1, g1, g2⟩ := hx
  cases e with
  | n =>
    obtain ⟨k2, e, T', h', nx', g3, g4⟩ := g2
    refine ⟨max k k2 + 1, e, T', h', nx', ?_, g4⟩
    show seqR (exec C (max k k2) (.loop a)) (exec C (max k k2) a T h nx) = _
    rw [exec_mono (Nat.le_max_left k k2) _ _ _ _ _ _ _ _ g1]
    exact exec_mono (Nat.le_max_right k k2) _ _ _ _ _ _ _ _ g3
  | x j => exact ⟨k + 1, .x j, T1, h1, nx1, by show seqR (exec C k (.loop a)) (exec C k a T h nx) = _; rw [g1]; rfl, g2⟩
  | r => exact ⟨k + 1, .r, T1, h1, nx1, by show seqR (exec C k (.loop a)) (exec C k a T h nx) = _; rw [g1]; rfl, g2⟩
theorem wp_sound : ∀ {c : AC} {Q : Post} {T : Tr AV} {h : Tr Blk} {nx : Pos}, wp C c Q T h nx → Ends C c Q T h nx
  | .skip, Q, T, h, nx, hx => ⟨1, .n, T, h, nx, rfl, hx⟩
  | .reg ops, Q, T, h, nx, hx => by
    obtain ⟨k, T', h', nx', g1, g2⟩ := wpOps_sound hx
    exact ⟨k + 1, .n, T', h', nx', g1, g2⟩
  | .dreg st, Q, T, h, nx, hx => by
    obtain ⟨k, T', h', nx', g1, g2⟩ := wpSts_sound hx
    exact ⟨k + 1, .n, T', h', nx', g1, g2⟩
  | .seq a b, Q, T, h, nx, hx => by
    refine Ends.seq ((wp_sound (c := a) hx).mono ?_)
    intro e T h nx hq
    cases e with
    | n => exact wp_sound (c := b) hq
    | x j => exact hq
    | r => exact hq
  | .cond x a b, Q, T, h, nx, hx => by
    simp only [wp] at hx
    split at hx
    · rename_i he
      obtain ⟨k, e, T', h', nx', g1, g2⟩ := wp_sound (c := a) hx
      exact ⟨k + 1, e, T', h', nx', by show condR (ev T x) (exec C k a T h nx) (exec C k b T h nx) = _; rw [he]; exact g1, g2⟩
    · rename_i he
      obtain ⟨k, e, T', h', nx', g1, g2⟩ := wp_sound (c := b) hx
      exact ⟨k + 1, e, T', h', nx', by show condR (ev T x) (exec C k a T h nx) (exec C k b T h nx) = _; rw [he]; exact g1, g2⟩
    · exact hx.elim
  | .block id a, Q, T, h, nx, hx => by
    obtain ⟨k, e, T', h', nx', g1, g2⟩ := wp_sound (c := a) hx
    cases e with
    | n => exact ⟨k + 1, .n, T', h', nx', by show blkR id (exec C k a T h nx) = _; rw [g1]; rfl, g2⟩
    | r => exact ⟨k + 1, .r, T', h', nx', by show blkR id (exec C k a T h nx) = _; rw [g1]; rfl, g2⟩
    | x j =>
      simp only at g2
      cases hj : Nat.beq j id with
      | true => rw [hj] at g2; exact ⟨k + 1, .n, T', h', nx', by show blkR id (exec C k a T h nx) = _; rw [g1]; simp [blkR, hj], g2⟩
      | false => rw [hj] at g2; exact ⟨k + 1, .x j, T', h', nx', by show blkR id (exec C k a T h nx) = _; rw [g1]; simp [blkR, hj], g2⟩
  | .loop a, Q, T, h, nx, hx => hx
  | .exit id, Q, T, h, nx, hx => ⟨1, .x id, T, h, nx, rfl, hx⟩
  | .ret, Q, T, h, nx, hx => ⟨1, .r, T, h, nx, rfl, hx⟩
  | .rf x ps asg body, Q, T, h, nx, hx => hx
theorem Ends.rounds {a : AC} {Q : Post} (I : Nat → Tr AV → Tr Blk → Pos → Prop) (hI : ∀ n T h nx, I n T h nx → wp C a (fun e T h nx => match e with | .n => ∃ m, m < n ∧ I m T h nx | .x j => Q (.x j) T h nx | .r => Q .r T h nx) T h nx) :
    ∀ (n : Nat) {T : Tr AV} {h : Tr Blk} {nx : Pos}, I n T h nx → Ends C (.loop a) Q T h nx := by
  intro n
  induction n using Nat.strongRecOn with
  | _ n ih =>
    intro T h nx hi
    refine Ends.loop ((wp_sound (hI n T h nx hi)).mono ?_)
    intro e T h nx hq
    cases e with
    | n => obtain ⟨m, hm, hi⟩ := hq; exact ih m hm hi
    | x j => exact hq
    | r => exact hq
theorem Comes.mono {f : AV} {vs : List AV} {K K' : AV → Tr Blk → Pos → Prop} (hx : Comes C f vs h nx K) (hk : ∀ v h nx, K v h nx → K' v h nx) : Comes C f vs h nx K' := by
  obtain ⟨k, v, h', nx', g1, g2⟩ := hx
  exact ⟨k, v, h', nx', g1, hk _ _ _ g2⟩
theorem Comes.orc {f : Pos} {c vs : List AV} {g : List AV → Tr Blk → Pos → Res} (ho : C.orc.get f = some g) {v : AV} {h' : Tr Blk} {nx' : Pos} (hg : g (vs ++ c) h nx = .ok v h' nx') {K : AV → Tr Blk → Pos → Prop} (hk : K v h' nx') : Comes C (.f f c) vs h nx K :=
  ⟨0, v, h', nx', by show callF C (exec C 0) f (vs ++ c) h nx = _; unfold callF; rw [ho]; exact hg, hk⟩
theorem Comes.fn {f : Pos} {c vs : List AV} {fn : Fn} (ho : C.orc.get f = none) (hf : C.fns.get f = some fn) {T : Tr AV} (hb : bindP fn.params (vs ++ c) .lf = some T) {K : AV → Tr Blk → Pos → Prop}
    (hx : wp C fn.body (fun e T h nx => match e with | .x _ => False | _ => ∃ us, rsAll fn.results T h = some us ∧ K (tupOf us) h nx) T h nx) : Comes C (.f f c) vs h nx K := by
  obtain ⟨k, e, T', h', nx', g1, g2⟩ := wp_sound hx
  cases e with
  | x j => exact g2.elim
  | n =>
    obtain ⟨us, g3, g4⟩ := g2
    refine ⟨k, tupOf us, h', nx', ?_, g4⟩
    show callF C (exec C k) f (vs ++ c) h nx = _
    unfold callF; simp only [ho, hf, hb, g1, retF, g3]
  | r =>
    obtain ⟨us, g3, g4⟩ := g2
    refine ⟨k, tupOf us, h', nx', ?_, g4⟩
    show callF C (exec C k) f (vs ++ c) h nx = _
    unfold callF; simp only [ho, hf, hb, g1, retF, g3]
theorem Comes.calls {f : Pos} {vs : List AV} {K : AV → Tr Blk → Pos → Prop} (hx : Comes C (.f f []) vs h nx K) : ∃ k v h' nx', calls C k f vs h nx = .ok v h' nx' ∧ K v h' nx' := by
  obtain ⟨k, v, h', nx', g1, g2⟩ := hx
  refine ⟨k, v, h', nx', ?_, g2⟩
  have g1 : callF C (exec C k) f (vs ++ []) h nx = .ok v h' nx' := g1
  rw [List.append_nil] at g1; exact g1
end
end
noncomputable section
abbrev Cfg := Option (Tr AV × Tr Blk × Pos)
def stp (o : Op) (s : Cfg) : Cfg := match s with | some (T, h, nx) => (match exOp noCall o T h nx with | .ok v h nx => some (setD o.d v T, h, nx) | .bad => none) | none => none
def run : List Op → Cfg → Cfg
  | [], s => s
  | o :: l, s => run l (stp o s)
def onS (s : Cfg) (K : Tr AV → Tr Blk → Pos → Prop) : Prop := match s with | some (T, h, nx) => K T h nx | none => False
def opv (c : OC) (vs : Option (List AV)) (h : Tr Blk) (nx : Pos) : Res := match vs with | some vs => exV noCall c vs h nx | none => .bad
def fin (d : Option Pos) (T : Tr AV) (r : Res) : Cfg := match r with | .ok v h nx => some (setD d v T, h, nx) | .bad => none
def gfin (g : Option AV) (w : Bool) (d : Option Pos) (T : Tr AV) (c : OC) (asx : List X) (h : Tr Blk) (nx : Pos) : Cfg :=
  match g with
  | some (.b x) => if x = w then fin d T (opv c (evs T asx) h nx) else some (setD d .u T, h, nx)
  | some .u => some (setD d .u T, h, nx)
  | _ => none
def isCall1 (o : Op) : Bool := isCallC o.c
def noCalls (l : List Op) : Bool := l.all fun o => !isCall1 o
def opsK (C : Ctx) (l : List Op) (Q : Post) (T : Tr AV) (h : Tr Blk) (nx : Pos) : Prop := wpOps C l (Q .n) T h nx
def callK (C : Ctx) (f : AV) (vs : Option (List AV)) (d : Option Pos) (l : List Op) (Q : Post) (T : Tr AV) (h : Tr Blk) (nx : Pos) : Prop :=
  match vs with | some vs => Comes C f vs h nx (fun v h nx => opsK C l Q (setD d v T) h nx) | none => False
def callvK (C : Ctx) (vs : Option (List AV)) (d : Option Pos) (l : List Op) (Q : Post) (T : Tr AV) (h : Tr Blk) (nx : Pos) : Prop :=
  match vs with | some (f :: vs) => Comes C f vs h nx (fun v h nx => opsK C l Q (setD d v T) h nx) | _ => False
def gcallK (g : Option AV) (w : Bool) (yes no : Prop) : Prop := match g with | some (.b x) => if x = w then yes else no | some .u => no | _ => False
inductive Fr | s (b : AC) | b (id : Nat)
def kont (C : Ctx) : List Fr → Post → Post
  | [], Q => Q
  | .s b :: ks, Q => fun e T h nx => match e with | .n => wp C b (kont C ks Q) T h nx | .x j => kont C ks Q (.x j) T h nx | .r => kont C ks Q .r T h nx
  | .b id :: ks, Q => fun e T h nx => match e with | .n => kont C ks Q .n T h nx | .x j => (bif Nat.beq j id then kont C ks Q .n T h nx else kont C ks Q (.x j) T h nx) | .r => kont C ks Q .r T h nx
def brn (C : Ctx) (v : Option AV) (a b : AC) (Q : Post) (T : Tr AV) (h : Tr Blk) (nx : Pos) : Prop := match v with | some (.b true) => wp C a Q T h nx | some (.b false) => wp C b Q T h nx | _ => False
def roundQ (I : Nat → Tr AV → Tr Blk → Pos → Prop) (n : Nat) (Q : Post) : Post := fun e T h nx => match e with | .n => ∃ m, m < n ∧ I m T h nx | .x j => Q (.x j) T h nx | .r => Q .r T h nx
def retP (us : Option (List AV)) (K : AV → Tr Blk → Pos → Prop) (h : Tr Blk) (nx : Pos) : Prop := match us with | some us => K (tupOf us) h nx | none => False
def finQ (rs : List Rs) (K : AV → Tr Blk → Pos → Prop) : Post := fun e T h nx => match e with | .x _ => False | _ => retP (rsAll rs T h) K h nx
def agnK (C : Ctx) (A : List Op) (k : Tr AV → Tr Blk → Pos → Prop) (T : Tr AV) (h : Tr Blk) (nx : Pos) : Prop := (A.all fun o => match exOp noCall o T h nx, o.d with
    | .ok v _ _, some d => (match T.get d with | some w => sameV v w | none => false)
    | _, _ => false) = true ∧ k T h nx
def stsK (C : Ctx) (st : List Stg) (Q : Post) (T : Tr AV) (h : Tr Blk) (nx : Pos) : Prop := wpSts C st (Q .n) T h nx
def hcallK (C : Ctx) (f : AV) (vs : Option (List AV)) (d : Option Pos) (l : List Stg) (Q : Post) (T : Tr AV) (h : Tr Blk) (nx : Pos) : Prop :=
  match vs with | some vs => Comes C f vs h nx (fun v h nx => stsK C l Q (setD d v T) h nx) | none => False
def hcallvK (C : Ctx) (vs : Option (List AV)) (d : Option Pos) (l : List Stg) (Q : Post) (T : Tr AV) (h : Tr Blk) (nx : Pos) : Prop :=
  match vs with | some (f :: vs) => Comes C f vs h nx (fun v h nx => stsK C l Q (setD d v T) h nx) | _ => False
section
variable {C : Ctx} {h : Tr Blk} {nx : Pos} {T : Tr AV} {K : AV → Tr Blk → Pos → Prop} {Q : Post} {v : AV} {s : Cfg}
@[go_sem] theorem run_nil : run [] s = s := by rfl
@[go_sem] theorem run_cons (o : Op) (l : List Op) : run (o :: l) s = run l (stp o s) := by rfl
@[go_sem] theorem onS_some (R : Tr AV → Tr Blk → Pos → Prop) : onS (some (T, h, nx)) R = R T h nx := by rfl
@[go_sem] theorem stp_plain (d : Option Pos) (c : OC) (asx : List X) : stp ⟨d, none, c, asx⟩ (some (T, h, nx)) = fin d T (opv c (evs T asx) h nx) := by
  show (match (match evs T asx with | some vs => exV noCall c vs h nx | none => .bad) with | .ok v h nx => some (setD d v T, h, nx) | .bad => none) = _
  cases evs T asx <;> rfl
@[go_sem] theorem stp_guard (d : Option Pos) (p : Pos) (w : Bool) (c : OC) (asx : List X) : stp ⟨d, some (p, w), c, asx⟩ (some (T, h, nx)) = gfin (T.get p) w d T c asx h nx := by
  unfold stp exOp gfin
  simp only [wantG]
  cases hp : T.get p with
  | none => rfl
  | some u =>
    cases u with
    | b x =>
      by_cases hxw : x = w
      · subst hxw; simp only [beq_self_eq_true, if_true]; cases evs T asx <;> rfl
      · have : (x == w) = false := by simpa using hxw
        simp only [this, if_neg hxw]
    | u => rfl
    | _ => rfl
@[go_sem] theorem fin_ok (d : Option Pos) (u : AV) : fin d T (.ok u h nx) = some (setD d u T, h, nx) := by rfl
@[go_sem] theorem gfin_tt (d : Option Pos) (c : OC) (asx : List X) : gfin (some (.b true)) true d T c asx h nx = fin d T (opv c (evs T asx) h nx) := by rfl
@[go_sem] theorem gfin_ff (d : Option Pos) (c : OC) (asx : List X) : gfin (some (.b false)) false d T c asx h nx = fin d T (opv c (evs T asx) h nx) := by rfl
@[go_sem] theorem gfin_tf (d : Option Pos) (c : OC) (asx : List X) : gfin (some (.b true)) false d T c asx h nx = some (setD d .u T, h, nx) := by rfl
@[go_sem] theorem gfin_ft (d : Option Pos) (c : OC) (asx : List X) : gfin (some (.b false)) true d T c asx h nx = some (setD d .u T, h, nx) := by rfl
@[go_sem] theorem gfin_u (w : Bool) (d : Option Pos) (c : OC) (asx : List X) : gfin (some .u) w d T c asx h nx = some (setD d .u T, h, nx) := by rfl
@[go_sem] theorem evs_nil : evs T [] = some [] := by rfl
@[go_sem] theorem evs_t (p : Pos) (l : List X) : evs T (.t p :: l) = (T.get p).bind fun v => (evs T l).map (v :: ·) := by
  show (Option.casesOn (T.get p) none (fun v => Option.casesOn (evs T l) none (fun r => some (v :: r))) : Option (List AV)) = _
  cases T.get p with
  | none => rfl
  | some v => cases evs T l <;> rfl
@[go_sem] theorem evs_c (u : AV) (l : List X) : evs T (.c u :: l) = (evs T l).map (u :: ·) := by
  show (Option.casesOn (evs T l) none (fun r => some (u :: r)) : Option (List AV)) = _
  cases evs T l <;> rfl
@[go_sem] theorem ev_t (p : Pos) : ev T (.t p) = T.get p := by rfl
@[go_sem] theorem ev_c (u : AV) : ev T (.c u) = some u := by rfl
@[go_sem] theorem setD_some (p : Pos) (u : AV) : setD (some p) u T = T.set p u := by rfl
@[go_sem] theorem setD_none (u : AV) : setD none u T = T := by rfl
@[go_sem] theorem get_set_pos {α : Type} (a b : Nat) (x : α) (t : Tr α) : (t.set (pos a) x).get (pos b) = if a = b then some x else t.get (pos b) := by
  by_cases hab : a = b
  · subst hab; rw [if_pos rfl, Tr.get_set_same]
  · rw [if_neg hab, Tr.get_set_other _ _ (fun e => hab (pos_inj e))]
theorem run_bad : ∀ l : List Op, run l none = none
  | [] => rfl
  | o :: l => run_bad l
theorem wpOps_cut {R : Tr AV → Tr Blk → Pos → Prop} : ∀ (pre rest : List Op) (T : Tr AV) (h : Tr Blk) (nx : Pos), noCalls pre = true → wpOps C (pre ++ rest) R T h nx = onS (run pre (some (T, h, nx))) (wpOps C rest R)
  | [], rest, T, h, nx, _ => rfl
  | o :: pre, rest, T, h, nx, hn => by
    simp only [noCalls, List.all_cons, Bool.and_eq_true, Bool.not_eq_true'] at hn
    have ih := fun T h nx => wpOps_cut (R := R) pre rest T h nx (by simpa [noCalls] using hn.2)
    show wpOp C o T h nx (fun v h nx => wpOps C (pre ++ rest) R (setD o.d v T) h nx) = onS (run pre (stp o (some (T, h, nx)))) (wpOps C rest R)
    simp only [ih]
    have hv : ∀ vs K, wpV C o.c vs h nx K = okR (exV noCall o.c vs h nx) K := by
      intro vs K
      have hc : isCallC o.c = false := hn.1
      generalize o.c = c at hc
      cases c <;> first | rfl | cases hc
    unfold wpOp stp exOp
    cases hw : wantG T o.g with
    | none => simp only [hw]; rw [run_bad]; rfl
    | some b =>
      cases b with
      | false => simp only [hw]
      | true =>
        cases he : evs T o.asx with
        | none => simp only [hw, he]; rw [run_bad]; rfl
        | some vs =>
          simp only [hw, he, hv]
          cases exV noCall o.c vs h nx with
          | bad => simp only; rw [run_bad]; rfl
          | ok v h nx => rfl
theorem wp_cut (pre rest : List Op) (hn : noCalls pre = true) : wp C (.reg (pre ++ rest)) Q T h nx = onS (run pre (some (T, h, nx))) (opsK C rest Q) := wpOps_cut pre rest T h nx hn
theorem ops_cut (pre rest : List Op) (hn : noCalls pre = true) : opsK C (pre ++ rest) Q T h nx = onS (run pre (some (T, h, nx))) (opsK C rest Q) := wpOps_cut pre rest T h nx hn
@[go_sem] theorem opsK_nil : opsK C [] Q T h nx = Q .n T h nx := by rfl
theorem opsK_call (d : Option Pos) (f : Pos) (asx : List X) (l : List Op) : opsK C (⟨d, none, .call f, asx⟩ :: l) Q T h nx = callK C (.f f []) (evs T asx) d l Q T h nx := rfl
theorem opsK_callv (d : Option Pos) (asx : List X) (l : List Op) : opsK C (⟨d, none, .callv, asx⟩ :: l) Q T h nx = callvK C (evs T asx) d l Q T h nx := by
  show (match evs T asx with | some vs => wpV C .callv vs h nx (fun v h nx => wpOps C l (Q .n) (setD d v T) h nx) | none => False) = _
  cases evs T asx with
  | none => rfl
  | some vs =>
    cases vs with
    | nil => rfl
    | cons f vs => rfl
theorem opsK_gcall (d : Option Pos) (p : Pos) (w : Bool) (f : Pos) (asx : List X) (l : List Op) : opsK C (⟨d, some (p, w), .call f, asx⟩ :: l) Q T h nx = gcallK (T.get p) w (callK C (.f f []) (evs T asx) d l Q T h nx) (opsK C l Q (setD d .u T) h nx) := by
  show wpOp C ⟨d, some (p, w), .call f, asx⟩ T h nx _ = _
  unfold wpOp gcallK
  simp only [wantG]
  cases hp : T.get p with
  | none => rfl
  | some u =>
    cases u with
    | b x =>
      by_cases hxw : x = w
      · subst hxw; simp only [beq_self_eq_true, if_true]; rfl
      · have : (x == w) = false := by simpa using hxw
        simp only [this, if_neg hxw]; rfl
    | u => rfl
    | _ => rfl
@[go_sem] theorem callK_some (f : AV) (vs : List AV) (d : Option Pos) (l : List Op) : callK C f (some vs) d l Q T h nx = Comes C f vs h nx (fun v h nx => opsK C l Q (setD d v T) h nx) := by rfl
@[go_sem] theorem callvK_some (f : AV) (vs : List AV) (d : Option Pos) (l : List Op) : callvK C (some (f :: vs)) d l Q T h nx = Comes C f vs h nx (fun v h nx => opsK C l Q (setD d v T) h nx) := by rfl
@[go_sem] theorem gcallK_tt (a b : Prop) : gcallK (some (.b true)) true a b = a := by rfl
@[go_sem] theorem gcallK_ff (a b : Prop) : gcallK (some (.b false)) false a b = a := by rfl
@[go_sem] theorem gcallK_tf (a b : Prop) : gcallK (some (.b true)) false a b = b := by rfl
@[go_sem] theorem gcallK_ft (a b : Prop) : gcallK (some (.b false)) true a b = b := by rfl
@[go_sem] theorem gcallK_u (w : Bool) (a b : Prop) : gcallK (some .u) w a b = b := by rfl
@[go_sem] theorem wp_skip : wp C .skip Q T h nx = Q .n T h nx := by rfl
@[go_sem] theorem wp_exit (id : Nat) : wp C (.exit id) Q T h nx = Q (.x id) T h nx := by rfl
@[go_sem] theorem wp_ret : wp C .ret Q T h nx = Q .r T h nx := by rfl
@[go_sem] theorem wp_seq (a b : AC) (ks : List Fr) : wp C (.seq a b) (kont C ks Q) T h nx = wp C a (kont C (.s b :: ks) Q) T h nx := by rfl
@[go_sem] theorem wp_block (id : Nat) (a : AC) (ks : List Fr) : wp C (.block id a) (kont C ks Q) T h nx = wp C a (kont C (.b id :: ks) Q) T h nx := by rfl
@[go_sem] theorem wp_cond (x : X) (a b : AC) : wp C (.cond x a b) Q T h nx = brn C (ev T x) a b Q T h nx := by
  simp only [wp]; rfl
@[go_sem] theorem brn_t (a b : AC) : brn C (some (.b true)) a b Q T h nx = wp C a Q T h nx := by rfl
@[go_sem] theorem brn_f (a b : AC) : brn C (some (.b false)) a b Q T h nx = wp C b Q T h nx := by rfl
@[go_sem] theorem kont_s_n (b : AC) (ks : List Fr) : kont C (.s b :: ks) Q .n T h nx = wp C b (kont C ks Q) T h nx := by rfl
@[go_sem] theorem kont_s_x (b : AC) (ks : List Fr) (j : Nat) : kont C (.s b :: ks) Q (.x j) T h nx = kont C ks Q (.x j) T h nx := by rfl
@[go_sem] theorem kont_s_r (b : AC) (ks : List Fr) : kont C (.s b :: ks) Q .r T h nx = kont C ks Q .r T h nx := by rfl
@[go_sem] theorem kont_b_n (id : Nat) (ks : List Fr) : kont C (.b id :: ks) Q .n T h nx = kont C ks Q .n T h nx := by rfl
@[go_sem] theorem kont_b_x (id : Nat) (ks : List Fr) (j : Nat) : kont C (.b id :: ks) Q (.x j) T h nx = if j = id then kont C ks Q .n T h nx else kont C ks Q (.x j) T h nx := by
  show (bif Nat.beq j id then kont C ks Q .n T h nx else kont C ks Q (.x j) T h nx) = _
  by_cases hj : j = id
  · subst hj; simp
  · have : Nat.beq j id = false := by cases hq : Nat.beq j id with | false => rfl | true => exact absurd (Nat.eq_of_beq_eq_true hq) hj
    rw [this, if_neg hj]; rfl
@[go_sem] theorem kont_b_r (id : Nat) (ks : List Fr) : kont C (.b id :: ks) Q .r T h nx = kont C ks Q .r T h nx := by rfl
@[go_sem] theorem kont_nil_n : kont C [] Q .n T h nx = Q .n T h nx := by rfl
@[go_sem] theorem kont_nil_x (j : Nat) : kont C [] Q (.x j) T h nx = Q (.x j) T h nx := by rfl
@[go_sem] theorem kont_nil_r : kont C [] Q .r T h nx = Q .r T h nx := by rfl
@[go_sem] theorem roundQ_n (I : Nat → Tr AV → Tr Blk → Pos → Prop) (n : Nat) : roundQ I n Q .n T h nx = ∃ m, m < n ∧ I m T h nx := by rfl
@[go_sem] theorem roundQ_x (I : Nat → Tr AV → Tr Blk → Pos → Prop) (n : Nat) (j : Nat) : roundQ I n Q (.x j) T h nx = Q (.x j) T h nx := by rfl
@[go_sem] theorem roundQ_r (I : Nat → Tr AV → Tr Blk → Pos → Prop) (n : Nat) : roundQ I n Q .r T h nx = Q .r T h nx := by rfl
@[go_sem] theorem finQ_n (rs : List Rs) : finQ rs K .n T h nx = retP (rsAll rs T h) K h nx := by rfl
@[go_sem] theorem finQ_r (rs : List Rs) : finQ rs K .r T h nx = retP (rsAll rs T h) K h nx := by rfl
@[go_sem] theorem retP_some (us : List AV) : retP (some us) K h nx = K (tupOf us) h nx := by rfl
@[go_sem] theorem tup1 (u : AV) : tupOf [u] = u := by rfl
@[go_sem] theorem tup0 : tupOf [] = .t [] := by rfl
@[go_sem] theorem tup2 (u v : AV) (l : List AV) : tupOf (u :: v :: l) = .t (u :: v :: l) := by rfl
def rsC (a : Bool) (n : Nat) (v : Option AV) (h : Tr Blk) : Option AV := match v with | some (.p b o) => (match cellsAt h b with | some l => rd a n o l | none => none) | _ => none
@[go_sem] theorem rs_nil : rsAll [] T h = some [] := by rfl
@[go_sem] theorem rs_t (p : Pos) (l : List Rs) : rsAll (.t p :: l) T h = (T.get p).bind fun v => (rsAll l T h).map (v :: ·) := by
  show (match T.get p, rsAll l T h with | some v, some l => some (v :: l) | _, _ => none) = _
  cases T.get p with
  | none => rfl
  | some v => cases rsAll l T h <;> rfl
@[go_sem] theorem rs_c (p : Pos) (a : Bool) (n : Nat) (l : List Rs) : rsAll (.c p a n :: l) T h = (rsC a n (T.get p) h).bind fun v => (rsAll l T h).map (v :: ·) := by
  show (match rsC a n (T.get p) h, rsAll l T h with | some v, some l => some (v :: l) | _, _ => none) = _
  cases rsC a n (T.get p) h with
  | none => rfl
  | some v => cases rsAll l T h <;> rfl
theorem wp_loop {a : AC} (I : Nat → Tr AV → Tr Blk → Pos → Prop) (n : Nat) (hi : I n T h nx) (hI : ∀ n T h nx, I n T h nx → wp C a (kont C [] (roundQ I n Q)) T h nx) : wp C (.loop a) Q T h nx :=
  Ends.rounds I (fun n T h nx hi => hI n T h nx hi) n hi
theorem Comes.body {f : Pos} {c vs : List AV} {fn : Fn} (ho : C.orc.get f = none) (hf : C.fns.get f = some fn) {T : Tr AV} (hb : bindP fn.params (vs ++ c) .lf = some T)
    (hx : wp C fn.body (kont C [] (finQ fn.results K)) T h nx) : Comes C (.f f c) vs h nx K := by
  obtain ⟨k, e, T', h', nx', g1, g2⟩ := wp_sound hx
  have fin : ∀ e, e = Ex.n ∨ e = Ex.r → exec C k fn.body T h nx = .ok e T' h' nx' → retP (rsAll fn.results T' h') K h' nx' → Comes C (.f f c) vs h nx K := by
    intro e he g1 g2
    cases hu : rsAll fn.results T' h' with
    | none => rw [hu] at g2; exact g2.elim
    | some us =>
      rw [hu] at g2
      refine ⟨k, tupOf us, h', nx', ?_, g2⟩
      show callF C (exec C k) f (vs ++ c) h nx = _
      unfold callF
      rcases he with rfl | rfl <;> simp only [ho, hf, hb, g1, retF, hu]
  cases e with
  | x j => exact g2.elim
  | n => exact fin .n (.inl rfl) g1 g2
  | r => exact fin .r (.inr rfl) g1 g2
theorem wpIts_run {R : Tr AV → Tr Blk → Pos → Prop} : ∀ (L : List It) (T : Tr AV) (h : Tr Blk) (nx : Pos), wpIts L R T h nx = onS (run (L.map (·.o)) (some (T, h, nx))) R
  | [], T, h, nx => rfl
  | x :: L, T, h, nx => by
    show okR (exOp noCall x.o T h nx) (fun v h nx => wpIts L R (setD x.o.d v T) h nx) = onS (run (L.map (·.o)) (stp x.o (some (T, h, nx)))) R
    simp only [wpIts_run L]
    unfold stp
    cases hq : exOp noCall x.o T h nx with
    | bad => simp only [hq]; rw [run_bad]; rfl
    | ok v h nx => simp only [hq]; rfl
theorem again_eq (C : Ctx) (A : List It) (P : Prop) : (again A T h nx = true ∧ P) = agnK C (A.map (·.o)) (fun _ _ _ => P) T h nx := by
  have : again A T h nx = ((A.map (·.o)).all fun o => match exOp noCall o T h nx, o.d with
    | .ok v _ _, some d => (match T.get d with | some w => sameV v w | none => false)
    | _, _ => false) := by
    induction A with
    | nil => rfl
    | cons x A ih =>
      rw [List.map_cons, List.all_cons, ← ih]
      show (match exOp noCall x.o T h nx, x.o.d with
        | .ok v _ _, some d => (match T.get d with | some w => bif sameV v w then again A T h nx else false | none => false)
        | _, _ => false) = _
      cases exOp noCall x.o T h nx with
      | bad => rfl
      | ok v h' nx' =>
        cases x.o.d with
        | none => rfl
        | some d =>
          cases hd : T.get d with
          | none => simp only [hd]; rfl
          | some w => simp only [hd]; cases sameV v w <;> rfl
  unfold agnK; rw [this]
theorem sts_end (L A : List It) : wp C (.dreg [(L, A, none)]) Q T h nx = onS (run (L.map (·.o)) (some (T, h, nx))) (agnK C (A.map (·.o)) (Q .n)) := by
  show wpIts L (fun T h nx => again A T h nx = true ∧ Q .n T h nx) T h nx = _
  rw [wpIts_run]
  congr 1
  funext T h nx
  rw [again_eq C]; rfl
theorem stsK_end (L A : List It) : stsK C [(L, A, none)] Q T h nx = onS (run (L.map (·.o)) (some (T, h, nx))) (agnK C (A.map (·.o)) (Q .n)) := sts_end L A
theorem stsK_call (L A : List It) (i : Nat) (js : List Nat) (hv : Bool) (d : Option Pos) (f : Pos) (asx : List X) (l : List Stg) :
    stsK C ((L, A, some ⟨i, js, ⟨d, none, .call f, asx⟩, hv⟩) :: l) Q T h nx = onS (run (L.map (·.o)) (some (T, h, nx))) (agnK C (A.map (·.o)) (fun T h nx => hcallK C (.f f []) (evs T asx) d l Q T h nx)) := by
  show wpIts L (fun T h nx => again A T h nx = true ∧ hcallK C (.f f []) (evs T asx) d l Q T h nx) T h nx = _
  rw [wpIts_run]
  congr 1
  funext T h nx
  rw [again_eq C]; rfl
theorem stsK_gcall (L A : List It) (i : Nat) (js : List Nat) (hv : Bool) (d : Option Pos) (p : Pos) (w : Bool) (f : Pos) (asx : List X) (l : List Stg) :
    stsK C ((L, A, some ⟨i, js, ⟨d, some (p, w), .call f, asx⟩, hv⟩) :: l) Q T h nx = onS (run (L.map (·.o)) (some (T, h, nx))) (agnK C (A.map (·.o)) (fun T h nx => gcallK (T.get p) w (hcallK C (.f f []) (evs T asx) d l Q T h nx) (stsK C l Q (setD d .u T) h nx))) := by
  have : ∀ T h nx, wpOp C ⟨d, some (p, w), .call f, asx⟩ T h nx (fun v h nx => wpSts C l (Q .n) (setD d v T) h nx) = gcallK (T.get p) w (hcallK C (.f f []) (evs T asx) d l Q T h nx) (stsK C l Q (setD d .u T) h nx) := by
    intro T h nx
    show (match wantG T (some (p, w)) with
      | some true => (match evs T asx with | some vs => wpV C (.call f) vs h nx (fun v h nx => wpSts C l (Q .n) (setD d v T) h nx) | none => False)
      | some false => wpSts C l (Q .n) (setD d .u T) h nx
      | none => False) = _
    unfold gcallK
    simp only [wantG]
    cases hq : T.get p with
    | none => rfl
    | some x =>
      cases x with
      | b x =>
        by_cases hxw : x = w
        · subst hxw; simp only [beq_self_eq_true, if_true]; rfl
        · have : (x == w) = false := by simpa using hxw
          simp only [this, if_neg hxw]; rfl
      | u => rfl
      | _ => rfl
  show wpIts L (fun T h nx => again A T h nx = true ∧ wpOp C ⟨d, some (p, w), .call f, asx⟩ T h nx (fun v h nx => wpSts C l (Q .n) (setD d v T) h nx)) T h nx = _
  rw [wpIts_run]
  congr 1
  funext T h nx
  rw [again_eq C, this]; rfl
theorem stsK_callv (L A : List It) (i : Nat) (js : List Nat) (hv : Bool) (d : Option Pos) (asx : List X) (l : List Stg) :
    stsK C ((L, A, some ⟨i, js, ⟨d, none, .callv, asx⟩, hv⟩) :: l) Q T h nx = onS (run (L.map (·.o)) (some (T, h, nx))) (agnK C (A.map (·.o)) (fun T h nx => hcallvK C (evs T asx) d l Q T h nx)) := by
  have : ∀ T h nx, wpOp C ⟨d, none, .callv, asx⟩ T h nx (fun v h nx => wpSts C l (Q .n) (setD d v T) h nx) = hcallvK C (evs T asx) d l Q T h nx := by
    intro T h nx
    show (match evs T asx with | some vs => wpV C .callv vs h nx (fun v h nx => wpSts C l (Q .n) (setD d v T) h nx) | none => False) = _
    cases evs T asx with
    | none => rfl
    | some vs =>
      cases vs with
      | nil => rfl
      | cons f vs => rfl
  show wpIts L (fun T h nx => again A T h nx = true ∧ wpOp C ⟨d, none, .callv, asx⟩ T h nx (fun v h nx => wpSts C l (Q .n) (setD d v T) h nx)) T h nx = _
  rw [wpIts_run]
  congr 1
  funext T h nx
  rw [again_eq C, this]; rfl
theorem stsK_op (L A : List It) (i : Nat) (js : List Nat) (hv : Bool) (o : Op) (ho : isCallC o.c = false) (l : List Stg) :
    stsK C ((L, A, some ⟨i, js, o, hv⟩) :: l) Q T h nx = onS (run (L.map (·.o)) (some (T, h, nx))) (agnK C (A.map (·.o)) (fun T h nx => onS (run [o] (some (T, h, nx))) (stsK C l Q))) := by
  have : ∀ T h nx, wpOp C o T h nx (fun v h nx => wpSts C l (Q .n) (setD o.d v T) h nx) = onS (run [o] (some (T, h, nx))) (stsK C l Q) := by
    intro T h nx
    have := wpOps_cut (C := C) (R := stsK C l Q) [o] [] T h nx (by simp [noCalls, isCall1, ho])
    exact this
  show wpIts L (fun T h nx => again A T h nx = true ∧ wpOp C o T h nx (fun v h nx => wpSts C l (Q .n) (setD o.d v T) h nx)) T h nx = _
  rw [wpIts_run]
  congr 1
  funext T h nx
  rw [again_eq C, this]; rfl
theorem wp_dreg (st : List Stg) : wp C (.dreg st) Q T h nx = stsK C st Q T h nx := rfl
@[go_sem] theorem agnK_nil (k : Tr AV → Tr Blk → Pos → Prop) : agnK C [] k T h nx = k T h nx := by simp [agnK]
def agn1 (r : Res) (w : Option AV) (P : Prop) : Prop := (match r, w with | .ok v _ _, some w => sameV v w | _, _ => false) = true ∧ P
@[go_sem] theorem agnK_cons (d : Pos) (c : OC) (asx : List X) (A : List Op) (k : Tr AV → Tr Blk → Pos → Prop) : agnK C (⟨some d, none, c, asx⟩ :: A) k T h nx = agn1 (opv c (evs T asx) h nx) (T.get d) (agnK C A k T h nx) := by
  have e : exOp noCall ⟨some d, none, c, asx⟩ T h nx = opv c (evs T asx) h nx := by
    show (match evs T asx with | some vs => exV noCall c vs h nx | none => .bad) = _
    cases evs T asx <;> rfl
  unfold agnK agn1
  rw [List.all_cons, Bool.and_eq_true, and_assoc, e]
  cases opv c (evs T asx) h nx with
  | bad => rfl
  | ok v h' nx' => cases hd : T.get d <;> simp only [hd]
@[go_sem] theorem agnK_gcons (d p : Pos) (w : Bool) (c : OC) (asx : List X) (A : List Op) (k : Tr AV → Tr Blk → Pos → Prop) : agnK C (⟨some d, some (p, w), c, asx⟩ :: A) k T h nx =
    gcallK (T.get p) w (agn1 (opv c (evs T asx) h nx) (T.get d) (agnK C A k T h nx)) (agn1 (.ok .u h nx) (T.get d) (agnK C A k T h nx)) := by
  have fin : ∀ r, exOp noCall ⟨some d, some (p, w), c, asx⟩ T h nx = r → agnK C (⟨some d, some (p, w), c, asx⟩ :: A) k T h nx = agn1 r (T.get d) (agnK C A k T h nx) := by
    intro r e
    unfold agnK agn1
    rw [List.all_cons, Bool.and_eq_true, and_assoc, e]
    cases r with
    | bad => rfl
    | ok v h' nx' => cases hd : T.get d <;> simp only [hd]
  have no : ∀ P : Prop, agn1 .bad (T.get d) P = False := by
    intro P; unfold agn1; simp
  unfold gcallK
  cases hq : T.get p with
  | none =>
    rw [fin .bad (by unfold exOp wantG; simp only [hq]), no]
  | some x =>
    have yes : exOp noCall ⟨some d, some (p, w), c, asx⟩ T h nx = (match wantG T (some (p, w)) with | some true => opv c (evs T asx) h nx | some false => .ok .u h nx | none => .bad) := by
      show (match wantG T (some (p, w)) with
        | some true => (match evs T asx with | some vs => exV noCall c vs h nx | none => .bad)
        | some false => .ok .u h nx
        | none => .bad) = _
      cases evs T asx <;> rfl
    cases x with
    | b x =>
      have hw : wantG T (some (p, w)) = some (x == w) := by unfold wantG; simp only [hq]
      rw [hw] at yes
      by_cases hxw : x = w
      · subst hxw; simp only [beq_self_eq_true] at yes; simp only [if_true]; exact fin _ yes
      · have : (x == w) = false := by simpa using hxw
        rw [this] at yes; simp only [if_neg hxw]; exact fin _ yes
    | u =>
      have hw : wantG T (some (p, w)) = some false := by unfold wantG; simp only [hq]
      rw [hw] at yes
      exact fin _ yes
    | _ =>
      have hw : wantG T (some (p, w)) = none := by unfold wantG; simp only [hq]
      rw [hw] at yes
      rw [fin _ yes]; exact no _
@[go_sem] theorem agn1_same (u : AV) (h' : Tr Blk) (nx' : Pos) (P : Prop) : agn1 (.ok u h' nx') (some u) P = P := by simp [agn1, sameV_self]
@[go_sem] theorem hcallK_some (f : AV) (vs : List AV) (d : Option Pos) (l : List Stg) : hcallK C f (some vs) d l Q T h nx = Comes C f vs h nx (fun v h nx => stsK C l Q (setD d v T) h nx) := by rfl
@[go_sem] theorem hcallvK_some (f : AV) (vs : List AV) (d : Option Pos) (l : List Stg) : hcallvK C (some (f :: vs)) d l Q T h nx = Comes C f vs h nx (fun v h nx => stsK C l Q (setD d v T) h nx) := by rfl
@[go_sem] theorem o_mv (u : AV) : opv .mv (some [u]) h nx = .ok u h nx := by rfl
@[go_sem] theorem o_pick_t (a b : AV) : opv .pick (some [.b true, a, b]) h nx = .ok a h nx := by rfl
@[go_sem] theorem o_pick_f (a b : AV) : opv .pick (some [.b false, a, b]) h nx = .ok b h nx := by rfl
theorem o_pick (c : Bool) (a b : AV) : opv .pick (some [.b c, a, b]) h nx = .ok (if c = true then a else b) h nx := by cases c <;> rfl
@[go_sem] theorem o_bin (op : Bin) (m : Nat) (e : EK) (x y : AV) : opv (.bin op m e) (some [x, y]) h nx = okv (binV op m e x y) h nx := by rfl
@[go_sem] theorem okv_some (u : AV) : okv (some u) h nx = .ok u h nx := by rfl
@[go_sem] theorem b_add (m : Nat) (e : EK) (k : IntKind) (a b : Int) : binV .add m e (.i k a) (.i k b) = some (.i k (k.wrap (a + b))) := by simp [binV, keq, binI, wr_eq]
@[go_sem] theorem b_sub (m : Nat) (e : EK) (k : IntKind) (a b : Int) : binV .sub m e (.i k a) (.i k b) = some (.i k (k.wrap (a - b))) := by simp [binV, keq, binI, wr_eq]
@[go_sem] theorem b_mul (m : Nat) (e : EK) (k : IntKind) (a b : Int) : binV .mul m e (.i k a) (.i k b) = some (.i k (k.wrap (a * b))) := by simp [binV, keq, binI, wr_eq]
theorem b_quo (m : Nat) (e : EK) (k : IntKind) (a b : Int) (hb : b ≠ 0) : binV .quo m e (.i k a) (.i k b) = some (.i k (k.wrap (a.tdiv b))) := by
  have : (b == 0) = false := by simpa using hb
  simp [binV, keq, binI, wr_eq, ieq_eq, this]
theorem b_rem (m : Nat) (e : EK) (k : IntKind) (a b : Int) (hb : b ≠ 0) : binV .rem m e (.i k a) (.i k b) = some (.i k (a.tmod b)) := by
  have : (b == 0) = false := by simpa using hb
  simp [binV, keq, binI, ieq_eq, this]
@[go_sem] theorem b_eql (m : Nat) (e : EK) (k : IntKind) (a b : Int) : binV .eql m e (.i k a) (.i k b) = some (.b (decide (a = b))) := by
  have : (a == b) = decide (a = b) := by by_cases h : a = b <;> simp [h]
  simp [binV, keq, binI, ieq_eq, this]
@[go_sem] theorem b_neq (m : Nat) (e : EK) (k : IntKind) (a b : Int) : binV .neq m e (.i k a) (.i k b) = some (.b (!decide (a = b))) := by
  have : (a == b) = decide (a = b) := by by_cases h : a = b <;> simp [h]
  simp [binV, keq, binI, ieq_eq, this]
@[go_sem] theorem b_lss (m : Nat) (e : EK) (k : IntKind) (a b : Int) : binV .lss m e (.i k a) (.i k b) = some (.b (decide (a < b))) := by simp [binV, keq, binI, ilt_eq]
@[go_sem] theorem b_gtr (m : Nat) (e : EK) (k : IntKind) (a b : Int) : binV .gtr m e (.i k a) (.i k b) = some (.b (decide (b < a))) := by simp [binV, keq, binI, ilt_eq]
@[go_sem] theorem b_leq (m : Nat) (e : EK) (k : IntKind) (a b : Int) : binV .leq m e (.i k a) (.i k b) = some (.b (!decide (b < a))) := by simp [binV, keq, binI, ilt_eq]
@[go_sem] theorem b_geq (m : Nat) (e : EK) (k : IntKind) (a b : Int) : binV .geq m e (.i k a) (.i k b) = some (.b (!decide (a < b))) := by simp [binV, keq, binI, ilt_eq]
@[go_sem] theorem b_eqlB (a b : Bool) : binV .eql 0 .b (.b a) (.b b) = some (.b (a == b)) := by simp [binV, cmpV, ceq, eqOp]
@[go_sem] theorem b_neqB (a b : Bool) : binV .neq 0 .b (.b a) (.b b) = some (.b (!(a == b))) := by simp [binV, cmpV, ceq, eqOp]
@[go_sem] theorem o_not (x : Bool) : opv .not (some [.b x]) h nx = .ok (.b (!x)) h nx := by rfl
@[go_sem] theorem o_neg (k : IntKind) (n : Int) : opv .neg (some [.i k n]) h nx = .ok (.i k (k.wrap (0 - n))) h nx := by show Res.ok (.i k (wr k (0 - n))) h nx = _; rw [wr_eq]
@[go_sem] theorem o_conv (k j : IntKind) (n : Int) : opv (.conv k) (some [.i j n]) h nx = .ok (.i k (k.wrap n)) h nx := by show Res.ok (.i k (wr k n)) h nx = _; rw [wr_eq]
@[go_sem] theorem o_len_z (k : Bool) (l : List AV) (n : Nat) (x : Bool) : opv (.len .l) (some [.z k l n x]) h nx = .ok (.i .i64 (n : Int)) h nx := by rfl
@[go_sem] theorem o_len_sl (b : Pos) (o n c : Nat) : opv (.len .l) (some [.sl b o n c]) h nx = .ok (.i .i64 (n : Int)) h nx := by rfl
@[go_sem] theorem o_len_ns : opv (.len .l) (some [.ns]) h nx = .ok (.i .i64 (0 : Int)) h nx := by rfl
@[go_sem] theorem o_len_s (l : List Nat) : opv (.len .s) (some [.s l]) h nx = .ok (.i .i64 (l.length : Int)) h nx := by rfl
@[go_sem] theorem o_lenA (n : Nat) (vs : List AV) : opv (.lenA n) (some vs) h nx = .ok (.i .i64 (n : Int)) h nx := by rfl
@[go_sem] theorem o_box (u : AV) : opv .box (some [u]) h nx = .ok (.p nx 0) (h.set nx (.cells (cellsOf u) 0)) nx.succ := by rfl
@[go_sem] theorem o_alloc (z : List AV) : opv (.alloc z) (some []) h nx = .ok (.p nx 0) (h.set nx (.cells z 0)) nx.succ := by rfl
@[go_sem] theorem o_faddr (o : Nat) (b : Pos) (o' : Nat) : opv (.faddr o) (some [.p b o']) h nx = .ok (.p b (o' + o)) h nx := by rfl
@[go_sem] theorem o_fld (o n : Nat) (a : Bool) (l : List AV) : opv (.fld o n a) (some [.a l]) h nx = okv (rd a n o l) h nx := by rfl
@[go_sem] theorem o_mkfn (f : Pos) (vs : List AV) : opv (.mkfn f) (some vs) h nx = .ok (.f f vs) h nx := by rfl
@[go_sem] theorem o_nil_p (b : Pos) (o : Nat) : opv .nilchk (some [.p b o]) h nx = .ok (.p b o) h nx := by rfl
@[go_sem] theorem o_nil_f (f : Pos) (c : List AV) : opv .nilchk (some [.f f c]) h nx = .ok (.f f c) h nx := by rfl
@[go_sem] theorem o_ext (i : Nat) (l : List AV) : opv (.ext i) (some [.t l]) h nx = okv (hd (dropN i l)) h nx := by rfl
@[go_sem] theorem o_load_zp (a : Bool) (n : Nat) (k : Bool) (l : List AV) : opv (.load a n) (some [.zp k l]) h nx = okv (rd a n 0 l) h nx := by rfl
def ldP (a : Bool) (n o : Nat) (l : Option (List AV)) (h : Tr Blk) (nx : Pos) : Res := match l with | some l => okv (rd a n o l) h nx | none => .bad
@[go_sem] theorem o_load_p (a : Bool) (n : Nat) (b : Pos) (o : Nat) : opv (.load a n) (some [.p b o]) h nx = ldP a n o (cellsAt h b) h nx := by rfl
@[go_sem] theorem ldP_some (a : Bool) (n o : Nat) (l : List AV) : ldP a n o (some l) h nx = okv (rd a n o l) h nx := by rfl
@[go_sem] theorem cells_same (b : Pos) (l : List AV) (g : Nat) : cellsAt (h.set b (.cells l g)) b = some l := by unfold cellsAt; rw [Tr.get_set_same]
theorem cells_other {b c : Pos} (B : Blk) (hc : c ≠ b) : cellsAt (h.set c B) b = cellsAt h b := by unfold cellsAt; rw [Tr.get_set_other _ _ hc]
theorem cells_get {b : Pos} {l : List AV} {g : Nat} (hb : h.get b = some (.cells l g)) : cellsAt h b = some l := by unfold cellsAt; rw [hb]
end
end
noncomputable section
attribute [go_sem] Option.bind_some Option.map_some
structure Grow (h : Tr Blk) (nx : Pos) (h' : Tr Blk) (nx' : Pos) : Prop where
  le : nx.num ≤ nx'.num
  get : ∀ b : Pos, b.num < nx.num → h'.get b = h.get b
theorem Grow.refl (h : Tr Blk) (nx : Pos) : Grow h nx h nx := ⟨Nat.le_refl _, fun _ _ => rfl⟩
theorem Grow.trans {h h1 h2 : Tr Blk} {nx nx1 nx2 : Pos} (a : Grow h nx h1 nx1) (b : Grow h1 nx1 h2 nx2) : Grow h nx h2 nx2 :=
  ⟨Nat.le_trans a.le b.le, fun x hx => by rw [b.get x (Nat.lt_of_lt_of_le hx a.le), a.get x hx]⟩
theorem Grow.set {h h1 : Tr Blk} {nx nx1 : Pos} (a : Grow h nx h1 nx1) {b : Pos} (hb : nx.num ≤ b.num) (B : Blk) : Grow h nx (h1.set b B) nx1 :=
  ⟨a.le, fun x hx => by rw [Tr.get_set_other _ _ (fun e => by subst e; omega), a.get x hx]⟩
theorem succ_num (p : Pos) : p.num < p.succ.num := by rw [Pos.num_succ]; omega
theorem Grow.new {h h1 : Tr Blk} {nx nx1 : Pos} (a : Grow h nx h1 nx1) (B : Blk) : Grow h nx (h1.set nx1 B) nx1.succ :=
  ⟨Nat.le_trans a.le (Nat.le_of_lt (succ_num _)), fun x hx => by rw [Tr.get_set_other _ _ (fun e => by subst e; have := a.le; omega), a.get x hx]⟩
theorem pos_ne {a b : Pos} (h : a.num < b.num) : a ≠ b := fun e => by subst e; omega
theorem Tr.set_set {α : Type} : ∀ (p : Pos) (x y : α) (t : Tr α), (t.set p x).set p y = t.set p y
  | .h, _, _, .lf => rfl
  | .h, _, _, .nd _ _ _ => rfl
  | .o p, x, y, .lf => congrArg (fun q => Tr.nd q none .lf) (Tr.set_set p x y .lf)
  | .o p, x, y, .nd l v r => congrArg (fun q => Tr.nd q v r) (Tr.set_set p x y l)
  | .i p, x, y, .lf => congrArg (fun q => Tr.nd .lf none q) (Tr.set_set p x y .lf)
  | .i p, x, y, .nd l v r => congrArg (fun q => Tr.nd l v q) (Tr.set_set p x y r)
inductive View (lo : Nat) (h : Tr Blk) (nx : Pos) (s : Nat) : AV → List AV → Nat → Prop
  | ns : View lo h nx s .ns [] 0
  | z (k : Bool) (l : List AV) (n : Nat) (x : Bool) (hl : l.length = n * s) (hk : s = 1 → k = false) : View lo h nx s (.z k l n x) l n
  | sl (b : Pos) (o n c gr : Nat) (L l : List AV) (hb : h.get b = some (.cells L gr)) (hl : l.length = n * s) (hL : ∃ p q, L = p ++ l ++ q ∧ p.length = o) (hn : n ≤ c) (hnx : b.num < nx.num) (hg : gr = 0 ∨ gr = s) (hlo : lo ≤ b.num) : View lo h nx s (.sl b o n c) l n
def ptr (s : Nat) (v : AV) (i : Nat) : AV := match v with | .z k l _ _ => .zp k (l.drop (i * s)) | .sl b o _ _ => .p b (o + i * s) | _ => .u
section
variable {lo : Nat} {h h' : Tr Blk} {nx nx' : Pos} {s : Nat} {v : AV} {l : List AV} {n : Nat}
theorem View.len (hD : View lo h nx s v l n) (h' : Tr Blk) (nx' : Pos) : opv (.len .l) (some [v]) h' nx' = .ok (.i .i64 (n : Int)) h' nx' := by
  cases hD <;> rfl
theorem View.llen (hD : View lo h nx s v l n) : l.length = n * s := by
  cases hD with
  | ns => simp
  | z _ _ _ _ hl => exact hl
  | sl _ _ _ _ _ _ _ _ hl => exact hl
theorem View.grow (hD : View lo h nx s v l n) (hg : Grow h nx h' nx') : View lo h' nx' s v l n := by
  cases hD with
  | ns => exact .ns
  | z k l n x hl hk => exact .z k l n x hl hk
  | sl b o n c gr L l hb hl hL hn hnx hgr hlo => exact .sl b o n c gr L l (by rw [hg.get b hnx]; exact hb) hl hL hn (Nat.lt_of_lt_of_le hnx hg.le) hgr hlo
theorem View.put (hD : View lo h nx s v l n) {p : Pos} (hp : p.num < lo) (B : Blk) : View lo (h.set p B) nx s v l n := by
  cases hD with
  | ns => exact .ns
  | z k l n x hl hk => exact .z k l n x hl hk
  | sl b o n c gr L l hb hl hL hn hnx hgr hlo => exact .sl b o n c gr L l (by rw [Tr.get_set_other _ _ (pos_ne (Nat.lt_of_lt_of_le hp hlo))]; exact hb) hl hL hn hnx hgr hlo
theorem View.low (hD : View lo h nx s v l n) {lo' : Nat} (hp : lo' ≤ lo) : View lo' h nx s v l n := by
  cases hD with
  | ns => exact .ns
  | z k l n x hl hk => exact .z k l n x hl hk
  | sl b o n c gr L l hb hl hL hn hnx hgr hlo => exact .sl b o n c gr L l hb hl hL hn hnx hgr (Nat.le_trans hp hlo)
theorem View.addr (hD : View lo h nx s v l n) (hs : 0 < s) {i : Nat} (hi : i < n) (k : IntKind) (h' : Tr Blk) (nx' : Pos) : opv (.iaddrS s) (some [v, .i k (i : Int)]) h' nx' = .ok (ptr s v i) h' nx' := by
  cases hD with
  | ns => omega
  | z k' l n x hl =>
    show (bif Nat.blt i n then zpR k' (dropN (i * s) l) h' nx' else .bad) = _
    rw [show Nat.blt i n = true from by rw [Nat.blt_eq]; exact hi, cond_true, dropN_eq]
    have : l.drop (i * s) ≠ [] := by
      have : i * s + s ≤ n * s := by rw [← Nat.succ_mul]; exact Nat.mul_le_mul_right _ hi
      simp only [ne_eq, List.drop_eq_nil_iff]; omega
    cases hq : l.drop (i * s) with
    | nil => exact absurd hq this
    | cons a r => simp [zpR, ptr, hq]
  | sl b o n c gr L l hb hl hL hn hnx =>
    show (bif Nat.blt i n then Res.ok (.p b (o + i * s)) h' nx' else Res.bad) = _
    rw [show Nat.blt i n = true from by rw [Nat.blt_eq]; exact hi, cond_true]; rfl
theorem sub_some {α : Type} {p l q : List α} {o n : Nat} (hp : p.length = o) (hl : l.length = n) : sub o n (p ++ l ++ q) = some l := by
  have tk : ∀ (l q : List α), takeN l.length (l ++ q) = some l := by
    intro l q
    induction l with
    | nil => rfl
    | cons a t ih =>
      show (Option.casesOn (takeN t.length (t ++ q)) none (fun r => some (a :: r)) : Option (List α)) = _
      rw [ih]
  unfold sub
  rw [dropN_eq, List.append_assoc, List.drop_append_of_le_length (by omega), List.drop_of_length_le (by omega), List.nil_append, ← hl]
  exact tk l q
theorem View.load (hD : View lo h nx s v l n) {i : Nat} (hi : i < n) {a b e : List AV} (hl : l = a ++ e ++ b) (ha : a.length = i * s) (he : e.length = s) (agg : Bool) {u : AV} (hu : rd agg s 0 e = some u) (hg : ∀ b, b.num < nx.num → h'.get b = h.get b) (nx' : Pos) :
    opv (.load agg s) (some [ptr s v i]) h' nx' = .ok u h' nx' := by
  have key : ∀ (p q : List AV) (o : Nat), p.length = o → rd agg s o (p ++ e ++ q) = some u := by
    intro p q o hp
    cases agg with
    | false =>
      show hd (dropN o (p ++ e ++ q)) = some u
      have hu : hd (dropN 0 e) = some u := hu
      rw [dropN_eq, List.append_assoc, List.drop_append_of_le_length (by omega), List.drop_of_length_le (by omega), List.nil_append]
      cases e with
      | nil => cases hu
      | cons x t => exact hu
    | true =>
      have h1 : sub o s (p ++ e ++ q) = some e := sub_some hp he
      have h2 : sub 0 s e = some e := by have := sub_some (p := []) (q := []) (l := e) rfl he; simpa using this
      have hu : (Option.casesOn (sub 0 s e) none (fun r => some (.a r)) : Option AV) = some u := hu
      rw [h2] at hu
      show (Option.casesOn (sub o s (p ++ e ++ q)) none (fun r => some (.a r)) : Option AV) = some u
      rw [h1]; exact hu
  cases hD with
  | ns => omega
  | z k' _ n x hll =>
    show okv (rd agg s 0 (l.drop (i * s))) h' nx' = _
    have : l.drop (i * s) = [] ++ e ++ b := by rw [hl, List.append_assoc, List.drop_append_of_le_length (by omega), List.drop_of_length_le (by omega)]; simp
    rw [this, key [] b 0 rfl]; rfl
  | sl bb o n c gr L _ hb hll hL hn hnx =>
    obtain ⟨p, q, hL, hp⟩ := hL
    show ldP agg s (o + i * s) (cellsAt h' bb) h' nx' = _
    rw [cells_get (by rw [hg bb hnx]; exact hb)]
    show okv (rd agg s (o + i * s) L) h' nx' = _
    have : L = (p ++ a) ++ e ++ (b ++ q) := by rw [hL, hl]; simp
    rw [this, key (p ++ a) (b ++ q) (o + i * s) (by simp; omega)]; rfl
theorem View.cut (hD : View lo h nx s v l n) {a b e : List AV} {i0 hi : Nat} (hle : i0 ≤ hi) (hn : hi ≤ n) (hl : l = a ++ e ++ b) (ha : a.length = i0 * s) (he : e.length = (hi - i0) * s) (hs : 0 < s) (k k' : IntKind) (hlo : Bool) (hl0 : hlo = false → i0 = 0) (hlt : i0 < n ∨ i0 = 0) (hg : ∀ b, b.num < nx.num → h'.get b = h.get b) (nx' : Pos) :
    ∃ u, opv (.slS s ⟨hlo, true, false⟩) (some (v :: ((if hlo = true then [.i k (i0 : Int)] else []) ++ [.i k' (hi : Int)]))) h' nx' = .ok u h' nx' ∧ View lo h nx s u e (hi - i0) := by
  have hb : ∀ cap, hi ≤ cap → bnds ⟨hlo, true, false⟩ n cap ((if hlo = true then [.i k (i0 : Int)] else []) ++ [.i k' (hi : Int)]) = some (i0, hi, cap) := by
    intro cap hc
    have e1 : Nat.ble hi cap = true := by rw [Nat.ble_eq]; exact hc
    have e2 : Nat.ble i0 hi = true := by rw [Nat.ble_eq]; exact hle
    cases hlo with
    | false =>
      have := hl0 rfl
      subst this
      show (match natOf (.i k' (hi : Int)) with | some h => bif Nat.ble h cap then some (0, h, cap) else none | _ => none) = _
      show (bif Nat.ble hi cap then some (0, hi, cap) else none) = _
      rw [e1]; rfl
    | true =>
      show (bif Nat.ble hi cap then bif Nat.ble i0 hi then some (i0, hi, cap) else none else none) = _
      rw [e1, e2]; rfl
  cases hD with
  | ns =>
    have h1 : hi = 0 := by omega
    have h2 : i0 = 0 := by omega
    subst h1; subst h2
    have : e = [] := List.length_eq_zero_iff.1 (by rw [he]; simp)
    subst this
    refine ⟨.ns, ?_, .ns⟩
    show (match bnds ⟨hlo, true, false⟩ 0 0 _ with | some _ => Res.ok .ns h' nx' | none => Res.bad) = _
    rw [hb 0 (Nat.le_refl _)]
  | z k0 _ n x hll hk =>
    refine ⟨.z k0 e (hi - i0) ((false || x) && Nat.beq hi n), ?_, .z _ _ _ _ he hk⟩
    show (match bnds ⟨hlo, true, false⟩ n n _ with
      | some r => (match sub (r.1 * s) ((r.2.1 - r.1) * s) l with | some l' => Res.ok (.z k0 l' (r.2.1 - r.1) ((false || x) && Nat.beq r.2.1 r.2.2)) h' nx' | none => Res.bad)
      | none => Res.bad) = _
    rw [hb n hn]
    simp only
    rw [hl, sub_some ha he]
  | sl b0 o n c gr L _ hbk hll hL hnc hnx hgr hlo0 =>
    obtain ⟨p, q, hL, hp⟩ := hL
    have hbk' : h'.get b0 = some (.cells L gr) := by rw [hg b0 hnx]; exact hbk
    have hLn : L = (p ++ a) ++ e ++ (b ++ q) := by rw [hL, hl]; simp
    have fin : ∀ o' c', (o' = o + i0 * s) → hi - i0 ≤ c' → View lo h nx s (.sl b0 o' (hi - i0) c') e (hi - i0) := by
      intro o' c' ho' hc'
      exact .sl b0 o' (hi - i0) c' gr L e hbk he ⟨p ++ a, b ++ q, hLn, by simp; omega⟩ hc' hnx hgr hlo0
    have run : opv (.slS s ⟨hlo, true, false⟩) (some (.sl b0 o n c :: ((if hlo = true then [.i k (i0 : Int)] else []) ++ [.i k' (hi : Int)]))) h' nx' = cutS b0 o s false (i0, hi, c) h' nx' := by
      show (match bnds ⟨hlo, true, false⟩ n c _ with | some r => cutS b0 o s false r h' nx' | none => Res.bad) = _
      rw [hb c (by omega)]
    rw [run]
    unfold cutS
    simp only [hbk', Bool.or_false]
    have hA : ∃ u, cutA b0 o s (i0, hi, c) h' nx' = .ok u h' nx' ∧ View lo h nx s u e (hi - i0) := by
      unfold cutA
      cases hq : Nat.beq c i0 with
      | true =>
        have := Nat.eq_of_beq_eq_true hq
        have h3 : hi - i0 = 0 := by omega
        refine ⟨.sl b0 o 0 0, by simp only [cond_true], ?_⟩
        rw [h3] at he ⊢
        have : e = [] := List.length_eq_zero_iff.1 (by rw [he]; simp)
        subst this
        exact .sl b0 o 0 0 gr L [] hbk (by simp) ⟨p, l ++ q, by rw [hL]; simp, hp⟩ (Nat.le_refl _) hnx hgr hlo0
      | false => exact ⟨.sl b0 (o + i0 * s) (hi - i0) (c - i0), by simp only [cond_false], fin _ _ rfl (by omega)⟩
    cases hg0 : Nat.beq gr 0 with
    | true => simpa only [cond_true] using hA
    | false =>
      simp only [cond_false]
      have hgs : gr = s := hgr.resolve_left (fun e => by rw [e] at hg0; cases hg0)
      rw [hgs, Nat.beq_refl, cond_true]
      cases hq : Nat.beq c i0 with
      | false => exact ⟨.sl b0 (o + i0 * s) (hi - i0) (c - i0), by simp only [cond_false], fin _ _ rfl (by omega)⟩
      | true =>
        have hcl := Nat.eq_of_beq_eq_true hq
        cases h0 : Nat.beq i0 0 with
        | true =>
          have h0 := Nat.eq_of_beq_eq_true h0
          have h3 : hi - i0 = 0 := by omega
          refine ⟨.sl b0 o 0 0, by simp only [cond_true], ?_⟩
          have := fin o 0 (by rw [h0]; simp) (by omega)
          rw [h3] at this ⊢; exact this
        | false =>
          exfalso
          rcases hlt with h | h
          · omega
          · rw [h] at h0; cases h0
end
theorem over_ok {α : Type} : ∀ (new l : List α), new.length ≤ l.length → over new l = some (new ++ l.drop new.length)
  | [], l, _ => rfl
  | a :: new, [], h => by simp at h
  | a :: new, b :: t, h => by
    show (Option.casesOn (over new t) none (fun r => some (a :: r)) : Option (List α)) = _
    rw [over_ok new t (by simpa using h)]; rfl
theorem spl_ok {α : Type} : ∀ (o : Nat) (new l : List α), o + new.length ≤ l.length → spl o new l = some (l.take o ++ new ++ l.drop (o + new.length))
  | 0, new, l, h => by show over new l = _; rw [over_ok new l (by omega)]; simp
  | o + 1, new, [], h => by simp at h
  | o + 1, new, a :: t, h => by
    show (Option.casesOn (spl o new t) none (fun r => some (a :: r)) : Option (List α)) = _
    rw [spl_ok o new t (by simp at h; omega), show o + 1 + new.length = (o + new.length) + 1 by omega]; rfl
theorem put_ok {h : Tr Blk} {nx : Pos} {b : Pos} {l : List AV} {g o : Nat} {new : List AV} (v : AV) (hb : h.get b = some (.cells l g)) (hs : scalL new = true) (ho : o + new.length ≤ l.length) :
    put b o new v h nx = .ok v (h.set b (.cells (l.take o ++ new ++ l.drop (o + new.length)) g)) nx := by
  unfold put; simp only [hb, hs, cond_true, spl_ok o new l ho]
theorem store_ok {h : Tr Blk} {nx : Pos} {b : Pos} {l : List AV} {g o n : Nat} {u : AV} (hb : h.get b = some (.cells l g)) (hn : (cellsOf u).length = n) (hs : scalL (cellsOf u) = true) (ho : o + n ≤ l.length) :
    opv (.store n) (some [.p b o, u]) h nx = .ok .u (h.set b (.cells (l.take o ++ cellsOf u ++ l.drop (o + n)) g)) nx := by
  subst hn
  show (bif Nat.beq (cellsOf u).length (cellsOf u).length then put b o (cellsOf u) .u h nx else .bad) = _
  rw [Nat.beq_refl, cond_true, put_ok .u hb hs ho]
theorem mkslice_ok {h : Tr Blk} {nx : Pos} (z : List AV) (k k' : IntKind) {n c : Nat} (hn : n ≤ c) (hc : c ≤ 16777216) : opv (.mkslice z) (some [.i k (n : Int), .i k' (c : Int)]) h nx = .ok (.sl nx 0 n c) (h.set nx (.cells (rep c z) 0)) nx.succ := by
  show (bif Nat.ble n c then bif Nat.ble c 16777216 then Res.ok (.sl nx 0 n c) (h.set nx (.cells (rep c z) 0)) nx.succ else .bad else .bad) = _
  rw [show Nat.ble n c = true from by rw [Nat.ble_eq]; exact hn, show Nat.ble c 16777216 = true from by rw [Nat.ble_eq]; exact hc]; rfl
theorem rep_one (n : Nat) (z : AV) : rep n [z] = List.replicate n z := by
  induction n with
  | zero => rfl
  | succ n ih => show [z] ++ rep n [z] = _; rw [ih]; rfl
theorem View.scal {lo : Nat} {h : Tr Blk} {nx : Pos} {s n : Nat} {v : AV} {l : List AV} (hD : View lo h nx s v l n) : scal v = true := by cases hD <;> rfl
theorem scal_cells {u : AV} (hs : scal u = true) : cellsOf u = [u] := by cases u <;> first | rfl | cases hs
theorem fill2 {x y : AV} (hx : scal x = true) (hy : scal y = true) (a b : AV) : fillL [x, y] [(0, 1), (1, 1)] [a, b] = some [x, y] := by
  have h1 := scal_cells hx
  have h2 := scal_cells hy
  show (match (0, 1) :: [(1, 1)] with | (o, n) :: os => bif Nat.beq (cellsOf x).length n then (match spl o (cellsOf x) [a, b] with | some z => fillL [y] os z | none => none) else none | [] => none) = _
  rw [h1]
  show (bif Nat.beq (cellsOf y).length 1 then (match spl 1 (cellsOf y) [x, b] with | some z => fillL [] [] z | none => none) else none) = _
  rw [h2]; rfl
attribute [go_sem] Tr.set_set Tr.get_set_same
attribute [go_sem] Nat.zero_add Nat.add_zero
section
variable {α : Type} {h : Tr Blk} {nx : Pos}
@[go_sem] theorem dropN_s (n : Nat) (a : α) (l : List α) : dropN (n + 1) (a :: l) = dropN n l := by rfl
@[go_sem] theorem dropN_z (l : List α) : dropN 0 l = l := by rfl
@[go_sem] theorem takeN_s (n : Nat) (a : α) (l : List α) : takeN (n + 1) (a :: l) = (takeN n l).map (a :: ·) := by
  show (Option.casesOn (takeN n l) none (fun r => some (a :: r)) : Option (List α)) = _
  cases takeN n l <;> rfl
@[go_sem] theorem takeN_z (l : List α) : takeN 0 l = some [] := by rfl
@[go_sem] theorem sub_def (o n : Nat) (l : List α) : sub o n l = takeN n (dropN o l) := by rfl
@[go_sem] theorem hd_cons (a : α) (l : List α) : hd (a :: l) = some a := by rfl
@[go_sem] theorem rd_f (n o : Nat) (l : List AV) : rd false n o l = hd (dropN o l) := by rfl
@[go_sem] theorem rd_t (n o : Nat) (l : List AV) : rd true n o l = (takeN n (dropN o l)).map .a := by
  show (Option.casesOn (takeN n (dropN o l)) none (fun r => some (.a r)) : Option AV) = _
  cases takeN n (dropN o l) <;> rfl
@[go_sem] theorem spl_z (new l : List α) : spl 0 new l = over new l := by rfl
@[go_sem] theorem spl_s (o : Nat) (new : List α) (a : α) (l : List α) : spl (o + 1) new (a :: l) = (spl o new l).map (a :: ·) := by
  show (Option.casesOn (spl o new l) none (fun r => some (a :: r)) : Option (List α)) = _
  cases spl o new l <;> rfl
@[go_sem] theorem over_z (l : List α) : over [] l = some l := by rfl
@[go_sem] theorem over_s (x : α) (new : List α) (a : α) (l : List α) : over (x :: new) (a :: l) = (over new l).map (x :: ·) := by
  show (Option.casesOn (over new l) none (fun r => some (x :: r)) : Option (List α)) = _
  cases over new l <;> rfl
@[go_sem] theorem cellsOf_a (l : List AV) : cellsOf (.a l) = l := by rfl
@[go_sem] theorem cellsOf_b (x : Bool) : cellsOf (.b x) = [.b x] := by rfl
@[go_sem] theorem cellsOf_i (k : IntKind) (n : Int) : cellsOf (.i k n) = [.i k n] := by rfl
@[go_sem] theorem cellsOf_g (n : Nat) : cellsOf (.g n) = [.g n] := by rfl
@[go_sem] theorem cellsOf_s (l : List Nat) : cellsOf (.s l) = [.s l] := by rfl
@[go_sem] theorem cellsOf_ns : cellsOf .ns = [.ns] := by rfl
@[go_sem] theorem cellsOf_z (k : Bool) (l : List AV) (n : Nat) (x : Bool) : cellsOf (.z k l n x) = [.z k l n x] := by rfl
@[go_sem] theorem cellsOf_sl (b : Pos) (o n c : Nat) : cellsOf (.sl b o n c) = [.sl b o n c] := by rfl
@[go_sem] theorem cellsOf_p (b : Pos) (o : Nat) : cellsOf (.p b o) = [.p b o] := by rfl
@[go_sem] theorem cellsOf_f (f : Pos) (c : List AV) : cellsOf (.f f c) = [.f f c] := by rfl
@[go_sem] theorem scalL_nil : scalL [] = true := by rfl
@[go_sem] theorem scalL_cons (v : AV) (l : List AV) : scalL (v :: l) = (scal v && scalL l) := by
  show (bif scal v then scalL l else false) = _
  cases scal v <;> rfl
@[go_sem] theorem scal_b (x : Bool) : scal (.b x) = true := by rfl
@[go_sem] theorem scal_i (k : IntKind) (n : Int) : scal (.i k n) = true := by rfl
@[go_sem] theorem scal_g (n : Nat) : scal (.g n) = true := by rfl
@[go_sem] theorem scal_s (l : List Nat) : scal (.s l) = true := by rfl
@[go_sem] theorem scal_ns : scal .ns = true := by rfl
@[go_sem] theorem scal_z (k : Bool) (l : List AV) (n : Nat) (x : Bool) : scal (.z k l n x) = true := by rfl
@[go_sem] theorem scal_sl (b : Pos) (o n c : Nat) : scal (.sl b o n c) = true := by rfl
@[go_sem] theorem scal_p (b : Pos) (o : Nat) : scal (.p b o) = true := by rfl
@[go_sem] theorem scal_f (f : Pos) (c : List AV) : scal (.f f c) = true := by rfl
attribute [go_sem] Bool.and_true Bool.true_and
def lenB {α : Type} : List α → Nat → Bool
  | [], 0 => true
  | _ :: l, n + 1 => lenB l n
  | _, _ => false
theorem lenB_eq : ∀ (l : List α) (n : Nat), lenB l n = Nat.beq l.length n
  | [], 0 => rfl
  | [], n + 1 => rfl
  | a :: l, 0 => rfl
  | a :: l, n + 1 => lenB_eq l n
@[go_sem] theorem lenB_z : lenB ([] : List α) 0 = true := by rfl
@[go_sem] theorem lenB_s (a : α) (l : List α) (n : Nat) : lenB (a :: l) (n + 1) = lenB l n := by rfl
def splN (b : Bool) (r : Option (List AV)) : Option (List AV) := bif b then r else none
@[go_sem] theorem splN_t (r : Option (List AV)) : splN true r = r := by rfl
@[go_sem] theorem fill_z (z : List AV) : fillL [] [] z = some z := by rfl
@[go_sem] theorem fill_s (v : AV) (vs : List AV) (o n : Nat) (os : List (Nat × Nat)) (z : List AV) : fillL (v :: vs) ((o, n) :: os) z = (splN (lenB (cellsOf v) n) (spl o (cellsOf v) z)).bind (fillL vs os) := by
  rw [lenB_eq]
  show (bif Nat.beq (cellsOf v).length n then (match spl o (cellsOf v) z with | some z => fillL vs os z | none => none) else none) = _
  cases Nat.beq (cellsOf v).length n with
  | false => rfl
  | true => cases spl o (cellsOf v) z <;> rfl
def bldR (l : Option (List AV)) (h : Tr Blk) (nx : Pos) : Res := match l with | some l => .ok (.a l) h nx | none => .bad
@[go_sem] theorem o_build (z : List AV) (os : List (Nat × Nat)) (vs : List AV) : opv (.build z os) (some vs) h nx = bldR (fillL vs os z) h nx := by rfl
@[go_sem] theorem bldR_some (l : List AV) : bldR (some l) h nx = .ok (.a l) h nx := by rfl
def bslR (n : Nat) (l : Option (List AV)) (h : Tr Blk) (nx : Pos) : Res := match l with | some l => .ok (.sl nx 0 n n) (h.set nx (.cells l 0)) nx.succ | none => .bad
@[go_sem] theorem o_bslice (z : List AV) (n : Nat) (os : List (Nat × Nat)) (vs : List AV) : opv (.bslice z n os) (some vs) h nx = bslR n (fillL vs os z) h nx := by rfl
@[go_sem] theorem bslR_some (n : Nat) (l : List AV) : bslR n (some l) h nx = .ok (.sl nx 0 n n) (h.set nx (.cells l 0)) nx.succ := by rfl
def stG (s b : Bool) (r : Option (List AV)) (p : Pos) (g : Nat) (h : Tr Blk) (nx : Pos) : Res := match r with | some r => bif s && b then .ok .u (h.set p (.cells r g)) nx else .bad | none => .bad
def stR (n o : Nat) (u : AV) (B : Option Blk) (p : Pos) (h : Tr Blk) (nx : Pos) : Res :=
  match B with | some (.cells l g) => stG (scalL (cellsOf u)) (lenB (cellsOf u) n) (spl o (cellsOf u) l) p g h nx | _ => .bad
@[go_sem] theorem o_store (n o : Nat) (p : Pos) (u : AV) : opv (.store n) (some [.p p o, u]) h nx = stR n o u (h.get p) p h nx := by
  show (bif Nat.beq (cellsOf u).length n then put p o (cellsOf u) .u h nx else .bad) = _
  unfold stR put
  rw [lenB_eq]
  cases h.get p with
  | none => cases Nat.beq (cellsOf u).length n <;> rfl
  | some B =>
    cases B with
    | cells l g =>
      simp only [stG]
      cases Nat.beq (cellsOf u).length n <;> cases scalL (cellsOf u) <;> cases spl o (cellsOf u) l <;> rfl
    | _ => cases Nat.beq (cellsOf u).length n <;> rfl
@[go_sem] theorem stR_cells (n o : Nat) (u : AV) (l : List AV) (g : Nat) (p : Pos) : stR n o u (some (.cells l g)) p h nx = stG (scalL (cellsOf u)) (lenB (cellsOf u) n) (spl o (cellsOf u) l) p g h nx := by rfl
@[go_sem] theorem stG_ok (r : List AV) (p : Pos) (g : Nat) : stG true true (some r) p g h nx = .ok .u (h.set p (.cells r g)) nx := by rfl
@[go_sem] theorem rsC_p (a : Bool) (n : Nat) (b : Pos) (o : Nat) : rsC a n (some (.p b o)) h = (cellsAt h b).bind (rd a n o) := by
  show (match cellsAt h b with | some l => rd a n o l | none => none) = _
  cases cellsAt h b <;> rfl
end
section
variable {h h' : Tr Blk} {nx nx' : Pos} {B B1 B2 : Blk}
@[go_sem] theorem cells_s1 (p : Pos) : cellsAt (h.set p.succ B) p = cellsAt h p := cells_other B (fun e => by have := succ_num p; rw [e] at this; omega)
@[go_sem] theorem cells_s2 (p : Pos) : cellsAt (h.set p.succ.succ B) p = cellsAt h p := cells_other B (fun e => by have := succ_num p; have := succ_num p.succ; rw [e] at this; omega)
@[go_sem] theorem cells_s3 (p : Pos) : cellsAt (h.set p.succ.succ.succ B) p = cellsAt h p := cells_other B (fun e => by have := succ_num p; have := succ_num p.succ; have := succ_num p.succ.succ; rw [e] at this; omega)
@[go_sem] theorem cells_s4 (p : Pos) : cellsAt (h.set p.succ.succ.succ.succ B) p = cellsAt h p := cells_other B (fun e => by have := succ_num p; have := succ_num p.succ; have := succ_num p.succ.succ; have := succ_num p.succ.succ.succ; rw [e] at this; omega)
@[go_sem] theorem get_s1 (p : Pos) : (h.set p.succ B).get p = h.get p := Tr.get_set_other _ _ (fun e => by have := succ_num p; rw [e] at this; omega)
@[go_sem] theorem get_s2 (p : Pos) : (h.set p.succ.succ B).get p = h.get p := Tr.get_set_other _ _ (fun e => by have := succ_num p; have := succ_num p.succ; rw [e] at this; omega)
@[go_sem] theorem get_s3 (p : Pos) : (h.set p.succ.succ.succ B).get p = h.get p := Tr.get_set_other _ _ (fun e => by have := succ_num p; have := succ_num p.succ; have := succ_num p.succ.succ; rw [e] at this; omega)
theorem Grow.cells (hg : Grow h nx h' nx') {b : Pos} (hb : b.num < nx.num) : cellsAt h' b = cellsAt h b := by unfold cellsAt; rw [hg.get b hb]
theorem lt_s1 (p : Pos) : p.num < p.succ.num := succ_num p
theorem lt_s2 (p : Pos) : p.num < p.succ.succ.num := Nat.lt_trans (succ_num p) (succ_num _)
theorem lt_s3 (p : Pos) : p.num < p.succ.succ.succ.num := Nat.lt_trans (lt_s2 p) (succ_num _)
theorem lt_s4 (p : Pos) : p.num < p.succ.succ.succ.succ.num := Nat.lt_trans (lt_s3 p) (succ_num _)
end
def dg (d : Nat) : AV := .i .u32 (d : Int)
def Dg (lo : Nat) (h : Tr Blk) (nx : Pos) (v : AV) (ds : List Nat) : Prop := View lo h nx 1 v (ds.map dg) ds.length
section
variable {lo : Nat} {h h' : Tr Blk} {nx nx' : Pos} {v : AV} {ds : List Nat}
theorem Dg.len (hD : Dg lo h nx v ds) (h' : Tr Blk) (nx' : Pos) : opv (.len .l) (some [v]) h' nx' = .ok (.i .i64 (ds.length : Int)) h' nx' := View.len hD h' nx'
theorem Dg.grow (hD : Dg lo h nx v ds) (hg : Grow h nx h' nx') : Dg lo h' nx' v ds := View.grow hD hg
theorem Dg.addr (hD : Dg lo h nx v ds) {i : Nat} (hi : i < ds.length) (k : IntKind) (h' : Tr Blk) (nx' : Pos) : opv (.iaddrS 1) (some [v, .i k (i : Int)]) h' nx' = .ok (ptr 1 v i) h' nx' := View.addr hD (by decide) hi k h' nx'
theorem Dg.load (hD : Dg lo h nx v ds) {i : Nat} (hi : i < ds.length) (hg : ∀ b, b.num < nx.num → h'.get b = h.get b) (nx' : Pos) : opv (.load false 1) (some [ptr 1 v i]) h' nx' = .ok (.i .u32 (ds[i] : Int)) h' nx' := by
  refine View.load hD hi (a := (ds.take i).map dg) (e := [dg ds[i]]) (b := (ds.drop (i + 1)).map dg) ?_ (by simp; omega) rfl false rfl hg nx'
  rw [← List.map_singleton, ← List.map_append, ← List.map_append]
  congr 1
  rw [List.append_assoc, List.singleton_append, ← List.drop_eq_getElem_cons hi, List.take_append_drop]
theorem Dg.take (hD : Dg lo h nx v ds) {j : Nat} (hj : j ≤ ds.length) (k : IntKind) (hg : ∀ b, b.num < nx.num → h'.get b = h.get b) (nx' : Pos) :
    ∃ u, opv (.slS 1 ⟨false, true, false⟩) (some [v, .i k (j : Int)]) h' nx' = .ok u h' nx' ∧ Dg lo h nx u (ds.take j) := by
  have hl : (ds.take j).length = j := by rw [List.length_take]; omega
  have := View.cut hD (i0 := 0) (hi := j) (a := []) (e := (ds.take j).map dg) (b := (ds.drop j).map dg) (Nat.zero_le _) hj (by rw [List.nil_append, ← List.map_append, List.take_append_drop]) (by simp) (by simp; omega) (by decide) k k false (fun _ => rfl) (.inr rfl) hg nx'
  obtain ⟨u, h1, h2⟩ := this
  refine ⟨u, h1, ?_⟩
  unfold Dg
  rw [hl]; exact h2
theorem Dg.mid (hD : Dg lo h nx v ds) {i j : Nat} (hij : i ≤ j) (hj : j ≤ ds.length) (hi : i < ds.length) (k k' : IntKind) (hg : ∀ b, b.num < nx.num → h'.get b = h.get b) (nx' : Pos) :
    ∃ u, opv (.slS 1 ⟨true, true, false⟩) (some [v, .i k (i : Int), .i k' (j : Int)]) h' nx' = .ok u h' nx' ∧ Dg lo h nx u ((ds.drop i).take (j - i)) := by
  have hl : ((ds.drop i).take (j - i)).length = j - i := by rw [List.length_take, List.length_drop]; omega
  have := View.cut hD (i0 := i) (hi := j) (a := (ds.take i).map dg) (e := ((ds.drop i).take (j - i)).map dg) (b := (ds.drop j).map dg) hij hj (by
      rw [← List.map_append, ← List.map_append]
      congr 1
      have : ds.drop j = (ds.drop i).drop (j - i) := by rw [List.drop_drop]; congr 1; omega
      rw [List.append_assoc, this, List.take_append_drop, List.take_append_drop]) (by simp; omega) (by simp; omega) (by decide) k k' true (fun h => by cases h) (.inl hi) hg nx'
  obtain ⟨u, h1, h2⟩ := this
  refine ⟨u, h1, ?_⟩
  unfold Dg
  rw [hl]; exact h2
theorem dg_int (d : Nat) : dg d = .i .u32 (d : Int) := rfl
end
def Own (C : Ctx) (n : Nat) (F : Fn) : Prop := C.orc.get (pos n) = none ∧ C.fns.get (pos n) = some F
theorem Own.comes {C : Ctx} {n : Nat} {F : Fn} (hO : Own C n F) {vs : List AV} {h : Tr Blk} {nx : Pos} {K : AV → Tr Blk → Pos → Prop} {T : Tr AV} (hb : bindP F.params vs .lf = some T) (hx : wp C F.body (kont C [] (finQ F.results K)) T h nx) : Comes C (.f (pos n) []) vs h nx K :=
  Comes.body hO.1 hO.2 (by rw [List.append_nil]; exact hb) hx
theorem bindP_cons (p : Pos) (ps : List Pos) (a : AV) (asx : List AV) (T : Tr AV) : bindP (p :: ps) (a :: asx) T = bindP ps asx (T.set p a) := rfl
theorem bindP_nil (T : Tr AV) : bindP [] [] T = some T := rfl
end
end Go.AR
