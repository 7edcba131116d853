import Derived.Test.YtjchghbmniifgaaGreatDoorX06
import Derived.Test.YtjchghbmniifgaaGreatDoorProg
import Derived.Test.YtjchghbmniifgaaGreatDoorX05
import Derived.Test.YtjchghbmniifgaaGreatDoorX03
import Derived.Test.YtjchghbmniifgaaGreatDoorX02
set_option linter.unusedVariables false
set_option linter.unusedSimpArgs false
set_option linter.unusedSectionVars false
set_option linter.constructorNameAsVariable false
set_option linter.defProp false
set_option linter.unnecessarySimpa false
set_option autoImplicit false
set_option maxRecDepth 100000
namespace Go.AR
open Go.Proofs
noncomputable section
section
variable {h : Tr Blk} {nx : Pos} {k : IntKind} {b : Pos}
@[go_sem] theorem is0 : opv (.iaddrS 4) (some [.sl b 0 3 3, .i k 0]) h nx = .ok (.p b 0) h nx := by rfl
@[go_sem] theorem is1 : opv (.iaddrS 4) (some [.sl b 0 3 3, .i k 1]) h nx = .ok (.p b 4) h nx := by rfl
@[go_sem] theorem is2 : opv (.iaddrS 4) (some [.sl b 0 3 3, .i k 2]) h nx = .ok (.p b 8) h nx := by rfl
@[go_sem] theorem il3 : opv (.len .l) (some [.sl b 0 3 3]) h nx = .ok (.i .i64 3) h nx := by rfl
end
section
variable {C : Ctx} {h h' : Tr Blk} {nx : Pos} {K : AV → Tr Blk → Pos → Prop}
theorem f_sub0 (hR : RatOrc C) {b : Int} (hb : sml b) (hk : K (qn (0 - b)) h nx) : Comes C (.f (pos nYah) []) [.a [.b false, .ns, .b false, .ns], qn b] h nx K :=
  k_sub (q := rz 0) (r := rz b) hR rfl rfl (sml_tq (by unfold sml; omega)) (sml_tq hb) rfl (by rw [rz_sub]; exact hk)
theorem f_add0 (hR : RatOrc C) {b : Int} (hb : sml b) (hk : K (qn (0 + b)) h nx) : Comes C (.f (pos nYn) []) [.a [.b false, .ns, .b false, .ns], qn b] h nx K :=
  k_add (q := rz 0) (r := rz b) hR rfl rfl (sml_tq (by unfold sml; omega)) (sml_tq hb) rfl (by rw [rz_add]; exact hk)
theorem VNeg_spec (hR : RatOrc C) (hE : Own C nYq FYq) (hO : Own C nYam FYam) {a b c : Int} (ha : sml a) (hb : sml b) (hc : sml c)
    (hK : ∀ h' nx', Grow h nx h' nx' → K (vv (0 - a) (0 - b) (0 - c)) h' nx') : Comes C (.f (pos nYam) []) [vv a b c] h nx K := by
  refine hO.comes (T := (Tr.lf.set (pos 0) (vv a b c))) rfl ?_
  show wp C Yam0 _ _ _ _
  have n1 := lt_s1 nx
  have n2 := lt_s2 nx
  simp only [FYam, go_sem, vv, qc, List.cons_append, List.nil_append, Nat.reduceEqDiff, reduceIte]
  refine each_spec hE (r1 := 0 - a) (r2 := 0 - b) (r3 := 0 - c) (fun h nx K hk => f_sub0 hR ha hk) (fun h nx K hk => f_sub0 hR hb hk) (fun h nx K hk => f_sub0 hR hc hk) (fun h' nx' hgr => ?_)
  have c4 : h'.get nx.succ = _ := (hgr.get nx.succ (lt_s1 _)).trans (Tr.get_set_same _ _ _)
  simp only [go_sem, vv, qc, c4, List.cons_append, List.nil_append, Nat.reduceEqDiff, reduceIte]
  refine hK _ _ ?_
  repeat (refine Grow.set ?_ (by omega) _)
  refine Grow.trans ?_ hgr
  repeat (refine Grow.set ?_ (by omega) _)
  exact ⟨by omega, fun _ _ => rfl⟩
theorem sml_abs {n : Int} (h : -10000000 ≤ n ∧ n ≤ 10000000) : sml n ∧ sml (iabs n) ∧ 0 ≤ iabs n ∧ iabs n ≤ 10000000 := by
  unfold sml iabs
  refine ⟨⟨by omega, by omega⟩, ?_, ?_, ?_⟩ <;> split <;> omega
theorem imax_rng {a b : Int} {x y : Int} (ha : x ≤ a ∧ a ≤ y) (hb : x ≤ b ∧ b ≤ y) : x ≤ imax a b ∧ imax a b ≤ y := by
  unfold imax; split <;> omega
def qnrm (a b c : Int) : Int := imax (iabs a) (imax (iabs b) (iabs c))
theorem Norm_spec (hR : RatOrc C) (hO : Own C nYad FYad) {a b c : Int} (ha : -10000000 ≤ a ∧ a ≤ 10000000) (hb : -10000000 ≤ b ∧ b ≤ 10000000) (hc : -10000000 ≤ c ∧ c ≤ 10000000)
    (hK : ∀ h' nx', Grow h nx h' nx' → K (qn (qnrm a b c)) h' nx') : Comes C (.f (pos nYad) []) [vv a b c] h nx K := by
  obtain ⟨a1, a2, a3, a4⟩ := sml_abs ha
  obtain ⟨b1, b2, b3, b4⟩ := sml_abs hb
  obtain ⟨c1, c2, c3, c4⟩ := sml_abs hc
  have m1 := imax_rng (x := 0) (y := 10000000) ⟨b3, b4⟩ ⟨c3, c4⟩
  refine hO.comes (T := (Tr.lf.set (pos 0) (vv a b c))) rfl ?_
  show wp C Yad0 _ _ _ _
  have n1 := lt_s1 nx
  have n2 := lt_s2 nx
  simp only [FYad, go_sem, vv, qc, List.cons_append, List.nil_append, Nat.reduceEqDiff, reduceIte]
  refine f_abs hR a1 ?_
  simp only [go_sem, qn, qc, Nat.reduceEqDiff, reduceIte]
  refine f_abs hR b1 ?_
  simp only [go_sem, qn, qc, Nat.reduceEqDiff, reduceIte]
  refine f_abs hR c1 ?_
  simp only [go_sem, qn, qc, Nat.reduceEqDiff, reduceIte]
  refine f_max hR b2 c2 ?_
  simp only [go_sem, qn, qc, Nat.reduceEqDiff, reduceIte]
  refine f_max hR a2 (by unfold sml; omega) ?_
  simp only [go_sem, qn, qc, Nat.reduceEqDiff, reduceIte]
  refine hK _ _ ?_
  repeat (refine Grow.set ?_ (by omega) _)
  exact ⟨by omega, fun _ _ => rfl⟩
def qsum (a b c : Int) : Int := 0 + iabs a + iabs b + iabs c
theorem RSum_spec (hR : RatOrc C) (hO : Own C nYo FYo) {b : Pos} {x y z : Int} (hx : 0 ≤ x ∧ x ≤ 10000000) (hy : 0 ≤ y ∧ y ≤ 10000000) (hz : 0 ≤ z ∧ z ≤ 10000000) (hb : b.num < nx.num) (hg : h.get b = some (.cells (qc x ++ (qc y ++ qc z)) 0))
    (hK : ∀ h' nx', Grow h nx h' nx' → K (qn (0 + x + y + z)) h' nx') : Comes C (.f (pos nYo) []) [.sl b 0 3 3] h nx K := by
  refine hO.comes (T := (Tr.lf.set (pos 0) (.sl b 0 3 3))) rfl ?_
  show wp C Yo0 _ _ _ _
  have n1 := lt_s1 nx
  have n2 := lt_s2 nx
  have n3 := lt_s3 nx
  have n4 := lt_s4 nx
  have n5 := lt_s1 nx.succ
  have n6 := lt_s1 nx.succ.succ
  have n7 := lt_s1 nx.succ.succ.succ
  have n8 := lt_s1 nx.succ.succ.succ.succ
  have gb : ∀ (H : Tr Blk) (p : Pos) (B : Blk), nx.num ≤ p.num → cellsAt (H.set p B) b = cellsAt H b := fun H p B hp => cells_other B (fun e => by rw [e] at hp; omega)
  have g0 : cellsAt h b = some (qc x ++ (qc y ++ qc z)) := by unfold cellsAt; rw [hg]
  have k1 : ∀ H B, cellsAt (Tr.set nx B H) b = cellsAt H b := fun H B => gb H _ B (by omega)
  have k2 : ∀ H B, cellsAt (Tr.set nx.succ B H) b = cellsAt H b := fun H B => gb H _ B (by omega)
  have k3 : ∀ H B, cellsAt (Tr.set nx.succ.succ B H) b = cellsAt H b := fun H B => gb H _ B (by omega)
  have k4 : ∀ H B, cellsAt (Tr.set nx.succ.succ.succ B H) b = cellsAt H b := fun H B => gb H _ B (by omega)
  have k5 : ∀ H B, cellsAt (Tr.set nx.succ.succ.succ.succ B H) b = cellsAt H b := fun H B => gb H _ B (by omega)
  have s4 : ∀ (H : Tr Blk) (B : Blk), (H.set nx.succ.succ.succ.succ B).get nx = H.get nx := fun H B => Tr.get_set_other _ _ (fun e => by have := lt_s4 nx; rw [e] at this; omega)
  have hc3 : ((3 : Nat) : Int) = 3 := rfl
  simp only [FYo, go_sem, hc3, Nat.reduceEqDiff, reduceIte]
  refine wp_unroll ?_
  simp only [go_sem, lt03, k1, k2, k3, k4, k5, g0, qc, List.cons_append, List.nil_append, Nat.reduceEqDiff, reduceIte]
  refine f_add0 hR (b := x) (by unfold sml; omega) ?_
  simp only [go_sem, qn, qc, wr1, Nat.reduceEqDiff, reduceIte]
  refine wp_unroll ?_
  simp only [go_sem, lt13, k1, k2, k3, k4, k5, g0, qc, List.cons_append, List.nil_append, Nat.reduceEqDiff, reduceIte]
  refine f_add hR (a := 0 + x) (b := y) (by unfold sml; omega) (by unfold sml; omega) ?_
  simp only [go_sem, qn, qc, wr2, Nat.reduceEqDiff, reduceIte]
  refine wp_unroll ?_
  simp only [go_sem, lt23, k1, k2, k3, k4, k5, g0, qc, List.cons_append, List.nil_append, Nat.reduceEqDiff, reduceIte]
  refine f_add hR (a := 0 + x + y) (b := z) (by unfold sml; omega) (by unfold sml; omega) ?_
  simp only [go_sem, qn, qc, wr3, Nat.reduceEqDiff, reduceIte]
  refine wp_unroll ?_
  simp only [go_sem, lt33, s4, Nat.reduceEqDiff, reduceIte]
  refine hK _ _ ?_
  repeat (refine Grow.set ?_ (by omega) _)
  exact ⟨by omega, fun _ _ => rfl⟩
theorem Sum_spec (hR : RatOrc C) (hS : Own C nYo FYo) (hO : Own C nYae FYae) {a b c : Int} (ha : -10000000 ≤ a ∧ a ≤ 10000000) (hb : -10000000 ≤ b ∧ b ≤ 10000000) (hc : -10000000 ≤ c ∧ c ≤ 10000000)
    (hK : ∀ h' nx', Grow h nx h' nx' → K (qn (qsum a b c)) h' nx') : Comes C (.f (pos nYae) []) [vv a b c] h nx K := by
  obtain ⟨a1, a2, a3, a4⟩ := sml_abs ha
  obtain ⟨b1, b2, b3, b4⟩ := sml_abs hb
  obtain ⟨c1, c2, c3, c4⟩ := sml_abs hc
  refine hO.comes (T := (Tr.lf.set (pos 0) (vv a b c))) rfl ?_
  show wp C Yae0 _ _ _ _
  have n1 := lt_s1 nx
  have n2 := lt_s2 nx
  have n3 := lt_s3 nx
  simp only [FYae, go_sem, vv, qc, List.cons_append, List.nil_append, Nat.reduceEqDiff, reduceIte]
  refine f_abs hR a1 ?_
  simp only [go_sem, qn, qc, Nat.reduceEqDiff, reduceIte]
  refine f_abs hR b1 ?_
  simp only [go_sem, qn, qc, Nat.reduceEqDiff, reduceIte]
  refine f_abs hR c1 ?_
  simp only [go_sem, qn, qc, Nat.reduceEqDiff, reduceIte]
  refine RSum_spec hR hS (x := iabs a) (y := iabs b) (z := iabs c) ⟨a3, a4⟩ ⟨b3, b4⟩ ⟨c3, c4⟩ (lt_s1 _) (Tr.get_set_same _ _ _) (fun h' nx' hgr => ?_)
  have c5 : h'.get nx.succ = _ := (hgr.get nx.succ (by have := lt_s2 nx.succ; omega)).trans ((get_s1 _).trans (Tr.get_set_same _ _ _))
  simp only [go_sem, qn, qc, c5, Nat.reduceEqDiff, reduceIte]
  refine hK _ _ ?_
  repeat (refine Grow.set ?_ (by omega) _)
  refine Grow.trans ?_ hgr
  repeat (refine Grow.set ?_ (by omega) _)
  exact ⟨by omega, fun _ _ => rfl⟩
end
end
end Go.AR
namespace Go.AR
open Go.Proofs
noncomputable section
section
variable {h : Tr Blk} {nx : Pos} {k : IntKind} {x1 x2 x3 x4 x5 x6 x7 x8 x9 x10 x11 x12 : AV}
@[go_sem] theorem iw0 : opv (.idxA 3 4 true) (some [.a [x1, x2, x3, x4, x5, x6, x7, x8, x9, x10, x11, x12], .i k 0]) h nx = .ok (.a [x1, x2, x3, x4]) h nx := by rfl
@[go_sem] theorem iw1 : opv (.idxA 3 4 true) (some [.a [x1, x2, x3, x4, x5, x6, x7, x8, x9, x10, x11, x12], .i k 1]) h nx = .ok (.a [x5, x6, x7, x8]) h nx := by rfl
@[go_sem] theorem iw2 : opv (.idxA 3 4 true) (some [.a [x1, x2, x3, x4, x5, x6, x7, x8, x9, x10, x11, x12], .i k 2]) h nx = .ok (.a [x9, x10, x11, x12]) h nx := by rfl
end
section
variable {C : Ctx} {h h' : Tr Blk} {nx : Pos} {K : AV → Tr Blk → Pos → Prop}
def lnrm (w : Bool) (a b c : Int) : Int := match w with | true => 0 + iabs a + iabs b + iabs c | false => imax (imax (imax 0 (iabs a)) (iabs b)) (iabs c)
theorem norm_spec (hR : RatOrc C) (hO : Own C nYj FYj) {a b c : Int} (w : Bool) (ha : -10000000 ≤ a ∧ a ≤ 10000000) (hb : -10000000 ≤ b ∧ b ≤ 10000000) (hc : -10000000 ≤ c ∧ c ≤ 10000000)
    (hK : ∀ h' nx', Grow h nx h' nx' → K (qn (lnrm w a b c)) h' nx') : Comes C (.f (pos nYj) []) [vv a b c, .b w] h nx K := by
  obtain ⟨a1, a2, a3, a4⟩ := sml_abs ha
  obtain ⟨b1, b2, b3, b4⟩ := sml_abs hb
  obtain ⟨c1, c2, c3, c4⟩ := sml_abs hc
  have m1 := imax_rng (x := 0) (y := 10000000) (a := 0) ⟨by omega, by omega⟩ ⟨a3, a4⟩
  have m2 := imax_rng (x := 0) (y := 10000000) m1 ⟨b3, b4⟩
  have n1 := lt_s1 nx
  have n2 := lt_s2 nx
  have n3 := lt_s3 nx
  have n4 := lt_s4 nx
  have n5 := lt_s1 nx.succ
  have n6 := lt_s1 nx.succ.succ
  have n7 := lt_s1 nx.succ.succ.succ
  have n8 := lt_s1 nx.succ.succ.succ.succ
  have n9 := lt_s1 nx.succ.succ.succ.succ.succ
  have s4 : ∀ (H : Tr Blk) (B : Blk), (H.set nx.succ.succ.succ.succ.succ B).get nx.succ = H.get nx.succ := fun H B => Tr.get_set_other _ _ (fun e => by have := lt_s4 nx.succ; rw [e] at this; omega)
  refine hO.comes (T := ((Tr.lf.set (pos 0) (vv a b c)).set (pos 1) (.b w))) rfl ?_
  show wp C Yj0 _ _ _ _
  simp only [FYj, go_sem, vv, qc, List.cons_append, List.nil_append, Nat.reduceEqDiff, reduceIte]
  refine f_from hR (n := 0) (by unfold sml; omega) ?_
  simp only [go_sem, qn, qc, Nat.reduceEqDiff, reduceIte]
  cases w with
  | true =>
    refine wp_unroll ?_
    simp only [go_sem, lt03, qc, qn, Nat.reduceEqDiff, reduceIte]
    refine f_abs hR a1 ?_
    simp only [go_sem, qn, qc, Nat.reduceEqDiff, reduceIte]
    refine f_add hR (a := 0) (b := iabs a) (by unfold sml; omega) a2 ?_
    simp only [go_sem, qn, qc, wr1, Nat.reduceEqDiff, reduceIte]
    refine wp_unroll ?_
    simp only [go_sem, lt13, qc, qn, Nat.reduceEqDiff, reduceIte]
    refine f_abs hR b1 ?_
    simp only [go_sem, qn, qc, Nat.reduceEqDiff, reduceIte]
    refine f_add hR (a := (0 + iabs a)) (b := iabs b) (by unfold sml; omega) b2 ?_
    simp only [go_sem, qn, qc, wr2, Nat.reduceEqDiff, reduceIte]
    refine wp_unroll ?_
    simp only [go_sem, lt23, qc, qn, Nat.reduceEqDiff, reduceIte]
    refine f_abs hR c1 ?_
    simp only [go_sem, qn, qc, Nat.reduceEqDiff, reduceIte]
    refine f_add hR (a := (0 + iabs a + iabs b)) (b := iabs c) (by unfold sml; omega) c2 ?_
    simp only [go_sem, qn, qc, wr3, Nat.reduceEqDiff, reduceIte]
    refine wp_unroll ?_
    simp only [go_sem, lt33, s4, Nat.reduceEqDiff, reduceIte]
    refine hK _ _ ?_
    repeat (refine Grow.set ?_ (by omega) _)
    exact ⟨by omega, fun _ _ => rfl⟩
  | false =>
    refine wp_unroll ?_
    simp only [go_sem, lt03, qc, qn, Nat.reduceEqDiff, reduceIte]
    refine f_abs hR a1 ?_
    simp only [go_sem, qn, qc, Nat.reduceEqDiff, reduceIte]
    refine f_max hR (a := 0) (b := iabs a) (by unfold sml; omega) a2 ?_
    simp only [go_sem, qn, qc, wr1, Nat.reduceEqDiff, reduceIte]
    refine wp_unroll ?_
    simp only [go_sem, lt13, qc, qn, Nat.reduceEqDiff, reduceIte]
    refine f_abs hR b1 ?_
    simp only [go_sem, qn, qc, Nat.reduceEqDiff, reduceIte]
    refine f_max hR (a := (imax 0 (iabs a))) (b := iabs b) (by unfold sml; omega) b2 ?_
    simp only [go_sem, qn, qc, wr2, Nat.reduceEqDiff, reduceIte]
    refine wp_unroll ?_
    simp only [go_sem, lt23, qc, qn, Nat.reduceEqDiff, reduceIte]
    refine f_abs hR c1 ?_
    simp only [go_sem, qn, qc, Nat.reduceEqDiff, reduceIte]
    refine f_max hR (a := (imax (imax 0 (iabs a)) (iabs b))) (b := iabs c) (by unfold sml; omega) c2 ?_
    simp only [go_sem, qn, qc, wr3, Nat.reduceEqDiff, reduceIte]
    refine wp_unroll ?_
    simp only [go_sem, lt33, s4, Nat.reduceEqDiff, reduceIte]
    refine hK _ _ ?_
    repeat (refine Grow.set ?_ (by omega) _)
    exact ⟨by omega, fun _ _ => rfl⟩
end
end
end Go.AR
namespace Go.AR
open Go.Proofs
noncomputable section
def f14 (vs : List AV) : Option AV := match vs with | [] => some (.b true) | _ => none
def orcKnown := orcS f14
structure NOwn (C : Ctx) : Prop where
  rat : RatOrc C
  known : C.orc.get (pos nYav) = some orcKnown
  law : Own C nYb FYb
  of : Own C nYp FYp
  each : Own C nYq FYq
  add : Own C nYal FYal
  neg : Own C nYam FYam
  norm : Own C nYad FYad
  sum : Own C nYae FYae
  rsum : Own C nYo FYo
  own : Own C nYj FYj
def b3 (k : IntKind) (a b c : Int) : AV := .a [.i k a, .i k b, .i k c]
def byte (n : Int) : Prop := -32768 ≤ n ∧ n ≤ 32767
section
variable {C : Ctx} {h h' : Tr Blk} {nx : Pos} {K : AV → Tr Blk → Pos → Prop}
theorem k_known (hN : NOwn C) (hk : K (.b true) h nx) : Comes C (.f (pos nYav) []) [] h nx K :=
  Comes.orc hN.known (show orcKnown [] h nx = .ok (.b true) h nx by rfl) hk
def nfun (w : Bool) : AV := match w with | true => .f (pos nYae) [] | false => .f (pos nYad) []
def nval (w : Bool) (a b c : Int) : Int := match w with | true => qsum a b c | false => qnrm a b c
def rng (n : Int) : Prop := -10000000 ≤ n ∧ n ≤ 10000000
theorem nfun_spec (hN : NOwn C) (w : Bool) {a b c : Int} (ha : rng a) (hb : rng b) (hc : rng c)
    (hK : ∀ h' nx', Grow h nx h' nx' → K (qn (nval w a b c)) h' nx') : Comes C (nfun w) [vv a b c] h nx K := by
  cases w with
  | true => exact Sum_spec hN.rat hN.rsum hN.sum ha hb hc hK
  | false => exact Norm_spec hN.rat hN.norm ha hb hc hK
theorem iabs_eq (n : Int) : iabs n = if n < 0 then -n else n := rfl
theorem nval_own (w : Bool) (a b c : Int) : icmp (nval w a b c) (lnrm w a b c) = 0 := by
  have : nval w a b c = lnrm w a b c := by
    cases w with
    | true => rfl
    | false =>
      show imax (iabs a) (imax (iabs b) (iabs c)) = imax (imax (imax 0 (iabs a)) (iabs b)) (iabs c)
      unfold imax iabs
      repeat' split
      all_goals omega
  rw [this]
  unfold icmp
  rw [if_neg (by omega), if_neg (by omega)]
theorem nval_lnrm (w : Bool) (a b c : Int) : nval w a b c = lnrm w a b c := by
  cases w with
  | true => rfl
  | false =>
    show imax (iabs a) (imax (iabs b) (iabs c)) = imax (imax (imax 0 (iabs a)) (iabs b)) (iabs c)
    unfold imax iabs
    repeat' split
    all_goals omega
theorem nsml (w : Bool) (a b c : Int) (ha : rng a) (hb : rng b) (hc : rng c) : sml (nval w a b c) := by
  unfold rng at *
  unfold sml
  cases w with
  | true =>
    show -1000000000 ≤ 0 + iabs a + iabs b + iabs c ∧ 0 + iabs a + iabs b + iabs c ≤ 1000000000
    unfold iabs
    repeat' split
    all_goals omega
  | false =>
    show -1000000000 ≤ imax (iabs a) (imax (iabs b) (iabs c)) ∧ imax (iabs a) (imax (iabs b) (iabs c)) ≤ 1000000000
    unfold imax iabs
    repeat' split
    all_goals omega
theorem nsum (w : Bool) {a b c d e f : Int} (ha : byte a) (hb : byte b) (hc : byte c) (hd : byte d) (he : byte e) (hf : byte f) : sml (nval w a b c + nval w d e f) := by
  unfold byte at *
  unfold sml
  have t : ∀ x : Int, -32768 ≤ x ∧ x ≤ 32767 → 0 ≤ iabs x ∧ iabs x ≤ 32768 := fun x h => by unfold iabs; split <;> omega
  have := t a ha
  have := t b hb
  have := t c hc
  have := t d hd
  have := t e he
  have := t f hf
  cases w with
  | true =>
    show -1000000000 ≤ (0 + iabs a + iabs b + iabs c) + (0 + iabs d + iabs e + iabs f) ∧ (0 + iabs a + iabs b + iabs c) + (0 + iabs d + iabs e + iabs f) ≤ 1000000000
    omega
  | false =>
    show -1000000000 ≤ imax (iabs a) (imax (iabs b) (iabs c)) + imax (iabs d) (imax (iabs e) (iabs f)) ∧ imax (iabs a) (imax (iabs b) (iabs c)) + imax (iabs d) (imax (iabs e) (iabs f)) ≤ 1000000000
    unfold imax
    repeat' split
    all_goals omega
theorem nval_tri (w : Bool) (a b c d e f : Int) : decide (0 < icmp (nval w (a + d) (b + e) (c + f)) (nval w a b c + nval w d e f)) = false := by
  have : nval w (a + d) (b + e) (c + f) ≤ nval w a b c + nval w d e f := by
    cases w with
    | true =>
      show 0 + iabs (a + d) + iabs (b + e) + iabs (c + f) ≤ (0 + iabs a + iabs b + iabs c) + (0 + iabs d + iabs e + iabs f)
      have t : ∀ x y : Int, iabs (x + y) ≤ iabs x + iabs y := fun x y => by unfold iabs; repeat' split
                                                                            all_goals omega
      have := t a d
      have := t b e
      have := t c f
      omega
    | false =>
      have t : ∀ x y : Int, iabs (x + y) ≤ iabs x + iabs y := fun x y => by unfold iabs; repeat' split
                                                                            all_goals omega
      have := t a d
      have := t b e
      have := t c f
      show imax (iabs (a + d)) (imax (iabs (b + e)) (iabs (c + f))) ≤ imax (iabs a) (imax (iabs b) (iabs c)) + imax (iabs d) (imax (iabs e) (iabs f))
      unfold imax
      repeat' split
      all_goals omega
  unfold icmp
  split
  · rfl
  · rw [if_neg (by omega)]; rfl
theorem nval_neg (w : Bool) (a b c : Int) : icmp (nval w (0 - a) (0 - b) (0 - c)) (nval w a b c) = 0 := by
  have t : ∀ x : Int, iabs (0 - x) = iabs x := fun x => by unfold iabs; repeat' split
                                                           all_goals omega
  have : nval w (0 - a) (0 - b) (0 - c) = nval w a b c := by
    cases w with
    | true => show 0 + iabs (0 - a) + iabs (0 - b) + iabs (0 - c) = _; rw [t, t, t]; rfl
    | false => show imax (iabs (0 - a)) (imax (iabs (0 - b)) (iabs (0 - c))) = _; rw [t, t, t]; rfl
  rw [this]
  unfold icmp
  rw [if_neg (by omega), if_neg (by omega)]
theorem law_spec (hN : NOwn C) {kk : IntKind} {a b c d e f : Int} (ha : byte a) (hb : byte b) (hc : byte c) (hd : byte d) (he : byte e) (hf : byte f)
    (hK : ∀ h' nx', Grow h nx h' nx' → K (.b true) h' nx') : Comes C (.f (pos nYb) []) [b3 kk a b c, b3 kk d e f] h nx K := by
  refine hN.law.comes (T := ((Tr.lf.set (pos 0) (b3 kk a b c)).set (pos 1) (b3 kk d e f))) rfl ?_
  show wp C Yb0 _ _ _ _
  have wa : IntKind.i64.wrap a = a := by unfold byte at ha; rw [wrap_i64] <;> omega
  have wb : IntKind.i64.wrap b = b := by unfold byte at hb; rw [wrap_i64] <;> omega
  have wc : IntKind.i64.wrap c = c := by unfold byte at hc; rw [wrap_i64] <;> omega
  have wd : IntKind.i64.wrap d = d := by unfold byte at hd; rw [wrap_i64] <;> omega
  have we : IntKind.i64.wrap e = e := by unfold byte at he; rw [wrap_i64] <;> omega
  have wf : IntKind.i64.wrap f = f := by unfold byte at hf; rw [wrap_i64] <;> omega
  simp only [FYb, go_sem, b3, Nat.reduceEqDiff, reduceIte]
  refine k_known hN ?_
  simp only [go_sem, wa, wb, wc, wd, we, wf, Nat.reduceEqDiff, reduceIte]
  have sl : ∀ n, byte n → sml n := fun n h => by unfold byte at h; unfold sml; omega
  have rg : ∀ n, byte n → rng n := fun n h => by unfold byte at h; unfold rng; omega
  refine Of_spec hN.rat hN.of (sl a ha) (sl b hb) (sl c hc) (fun h1 nx1 g1 => ?_)
  have x1 := (g1.cells (b := nx.succ) (lt_s1 _))
  simp only [go_sem] at x1
  have l1 : nx.succ.succ.num ≤ nx1.num := g1.le
  have m1 := lt_s1 nx
  have m2 := lt_s1 nx.succ
  have x2 : ∀ B, cellsAt (h1.set nx1 B) nx.succ = _ := fun B => (cells_other B (fun e => by rw [e] at l1; omega)).trans x1
  simp only [go_sem, vv, qc, x1, x2, wa, wb, wc, wd, we, wf, List.cons_append, List.nil_append, Nat.reduceEqDiff, reduceIte]
  refine Of_spec hN.rat hN.of (sl d hd) (sl e he) (sl f hf) (fun h2 nx2 g2 => ?_)
  simp only [go_sem, vv, qc, List.cons_append, List.nil_append, Nat.reduceEqDiff, reduceIte]
  have l2 : nx1.succ.num ≤ nx2.num := g2.le
  have m3 := lt_s1 nx1
  have m4 := lt_s1 nx2
  have m5 := lt_s1 nx2.succ
  have y1 := (g2.cells (b := nx1) m3)
  simp only [go_sem] at y1
  refine wp_loop (fun r T h' nx' => ∃ m, m + r = 2 ∧ nx2.succ.succ.num ≤ nx'.num ∧ Grow h nx h' nx' ∧ cellsAt h' nx1 = some (qc a ++ (qc b ++ qc c)) ∧ cellsAt h' nx2 = some (qc d ++ (qc e ++ qc f)) ∧ cellsAt h' nx2.succ = some [.b false, .b true] ∧
    T.get (pos 5) = some (.p nx1 0) ∧ T.get (pos 6) = some (.p nx2 0) ∧ T.get (pos 34) = some (.sl nx2.succ 0 2 2) ∧ T.get (pos 35) = some (.i .i64 2) ∧ T.get (pos 36) = some (.i .i64 (m : Int))) 2 ⟨0, rfl, Nat.le_refl _, ?_, ?_, ?_, ?_, ?_, ?_, ?_, ?_, ?_⟩ ?_
  · repeat (refine Grow.set ?_ (by omega) _)
    refine Grow.trans ?_ (Grow.trans g2 ⟨Nat.le_trans (Nat.le_of_lt m4) (Nat.le_of_lt m5), fun _ _ => rfl⟩)
    repeat (refine Grow.set ?_ (by omega) _)
    refine Grow.trans ?_ (Grow.trans g1 ⟨Nat.le_of_lt m3, fun _ _ => rfl⟩)
    repeat (refine Grow.set ?_ (by omega) _)
    exact ⟨by omega, fun _ _ => rfl⟩
  · have u1 : ∀ (H : Tr Blk) B, cellsAt (H.set nx2 B) nx1 = cellsAt H nx1 := fun H B => cells_other B (fun e => by rw [e] at l2; omega)
    have u2 : ∀ (H : Tr Blk) B, cellsAt (H.set nx2.succ B) nx1 = cellsAt H nx1 := fun H B => cells_other B (fun e => by rw [← e] at m3 l2; omega)
    simp only [go_sem, u1, u2, y1, qc, List.cons_append, List.nil_append]
  · simp only [go_sem, qc, List.cons_append, List.nil_append]
  · simp only [go_sem, qc, List.cons_append, List.nil_append]
  iterate 5 · first | (simp only [go_sem, Nat.reduceEqDiff, reduceIte]; done) | (simp only [go_sem, Nat.reduceEqDiff, reduceIte]; rfl) | rfl
  rintro r T h' nx' ⟨m, hm, hn, hgr, q1, q2, q3, t5, t6, t34, t35, t36⟩
  cases r with
  | zero =>
    obtain rfl : m = 2 := by omega
    have f1 : decide (((2 : Nat) : Int) < 2) = false := by decide
    simp only [go_sem, t5, t6, t34, t35, t36, f1, Nat.reduceEqDiff, reduceIte]
    exact hK _ _ hgr
  | succ r =>
    have f1 : decide ((m : Int) < 2) = true := by simp; omega
    have fa : opv (.iaddrS 1) (some [.sl nx2.succ 0 2 2, .i .i64 (m : Int)]) h' nx' = .ok (.p nx2.succ m) h' nx' := by
      have hm' : m = 0 ∨ m = 1 := by omega
      rcases hm' with rfl | rfl <;> rfl
    have fb : opv (.load false 1) (some [.p nx2.succ m]) h' nx' = .ok (.b (decide (m = 1))) h' nx' := by
      have hm' : m = 0 ∨ m = 1 := by omega
      have q3' := q3
      show ldP false 1 m (cellsAt h' nx2.succ) h' nx' = _
      rw [q3]
      rcases hm' with rfl | rfl <;> rfl
    simp only [go_sem, t5, t6, t34, t35, t36, f1, fa, fb, Nat.reduceEqDiff, reduceIte]
    have wm : IntKind.i64.wrap ((m : Int) + 1) = ((m + 1 : Nat) : Int) := by rw [wrap_i64] <;> omega
    have rga : ∀ x y, byte x → byte y → rng (x + y) := fun x y hx hy => by unfold byte at hx hy; unfold rng; omega
    have rgn : ∀ x, byte x → rng (0 - x) := fun x hx => by unfold byte at hx; unfold rng; omega
    cases hw : decide (m = 1) with
    | true =>
      simp only [go_sem, t5, t6, t34, t35, t36, f1, fa, fb, hw, q1, q2, vv, qn, qc, List.cons_append, List.nil_append, Nat.reduceEqDiff, reduceIte]
      refine nfun_spec hN true (rg a ha) (rg b hb) (rg c hc) (fun H1 N1 g1 => ?_)
      have G1 := g1
      have z11 : cellsAt H1 nx1 = _ := (G1.cells (b := nx1) (by omega)).trans q1
      have z21 : cellsAt H1 nx2 = _ := (G1.cells (b := nx2) (by omega)).trans q2
      simp only [qc, List.cons_append, List.nil_append] at z11 z21
      simp only [go_sem, t5, t6, t34, t35, t36, f1, fa, fb, hw, z11, z21, vv, qn, qc, List.cons_append, List.nil_append, Nat.reduceEqDiff, reduceIte]
      refine norm_spec hN.rat hN.own true (rg a ha) (rg b hb) (rg c hc) (fun H2 N2 g2 => ?_)
      have G2 := G1.trans g2
      have z12 : cellsAt H2 nx1 = _ := (G2.cells (b := nx1) (by omega)).trans q1
      have z22 : cellsAt H2 nx2 = _ := (G2.cells (b := nx2) (by omega)).trans q2
      simp only [qc, List.cons_append, List.nil_append] at z12 z22
      simp only [go_sem, t5, t6, t34, t35, t36, f1, fa, fb, hw, z12, z22, vv, qn, qc, List.cons_append, List.nil_append, Nat.reduceEqDiff, reduceIte]
      refine f_cmp hN.rat (a := nval true a b c) (b := lnrm true a b c) (nsml true _ _ _ (rg a ha) (rg b hb) (rg c hc)) (by rw [← nval_lnrm]; exact nsml true _ _ _ (rg a ha) (rg b hb) (rg c hc)) ?_
      have o1 : decide (icmp (nval true a b c) (lnrm true a b c) = 0) = true := by rw [nval_own]; rfl
      simp only [go_sem, t5, t6, t34, t35, t36, f1, fa, fb, hw, o1, z12, z22, vv, qn, qc, List.cons_append, List.nil_append, Nat.reduceEqDiff, reduceIte]
      refine VAdd_spec hN.rat hN.each hN.add (sl a ha) (sl b hb) (sl c hc) (sl d hd) (sl e he) (sl f hf) (fun H3 N3 g3 => ?_)
      have G3 := G2.trans g3
      have z13 : cellsAt H3 nx1 = _ := (G3.cells (b := nx1) (by omega)).trans q1
      have z23 : cellsAt H3 nx2 = _ := (G3.cells (b := nx2) (by omega)).trans q2
      simp only [qc, List.cons_append, List.nil_append] at z13 z23
      simp only [go_sem, t5, t6, t34, t35, t36, f1, fa, fb, hw, o1, z13, z23, vv, qn, qc, List.cons_append, List.nil_append, Nat.reduceEqDiff, reduceIte]
      refine nfun_spec hN true (rga _ _ ha hd) (rga _ _ hb he) (rga _ _ hc hf) (fun H4 N4 g4 => ?_)
      have G4 := G3.trans g4
      have z14 : cellsAt H4 nx1 = _ := (G4.cells (b := nx1) (by omega)).trans q1
      have z24 : cellsAt H4 nx2 = _ := (G4.cells (b := nx2) (by omega)).trans q2
      simp only [qc, List.cons_append, List.nil_append] at z14 z24
      simp only [go_sem, t5, t6, t34, t35, t36, f1, fa, fb, hw, o1, z14, z24, vv, qn, qc, List.cons_append, List.nil_append, Nat.reduceEqDiff, reduceIte]
      refine nfun_spec hN true (rg a ha) (rg b hb) (rg c hc) (fun H5 N5 g5 => ?_)
      have G5 := G4.trans g5
      have z15 : cellsAt H5 nx1 = _ := (G5.cells (b := nx1) (by omega)).trans q1
      have z25 : cellsAt H5 nx2 = _ := (G5.cells (b := nx2) (by omega)).trans q2
      simp only [qc, List.cons_append, List.nil_append] at z15 z25
      simp only [go_sem, t5, t6, t34, t35, t36, f1, fa, fb, hw, o1, z15, z25, vv, qn, qc, List.cons_append, List.nil_append, Nat.reduceEqDiff, reduceIte]
      refine nfun_spec hN true (rg d hd) (rg e he) (rg f hf) (fun H6 N6 g6 => ?_)
      have G6 := G5.trans g6
      have z16 : cellsAt H6 nx1 = _ := (G6.cells (b := nx1) (by omega)).trans q1
      have z26 : cellsAt H6 nx2 = _ := (G6.cells (b := nx2) (by omega)).trans q2
      simp only [qc, List.cons_append, List.nil_append] at z16 z26
      simp only [go_sem, t5, t6, t34, t35, t36, f1, fa, fb, hw, o1, z16, z26, vv, qn, qc, List.cons_append, List.nil_append, Nat.reduceEqDiff, reduceIte]
      refine f_add hN.rat (a := nval true a b c) (b := nval true d e f) (nsml true _ _ _ (rg a ha) (rg b hb) (rg c hc)) (nsml true _ _ _ (rg d hd) (rg e he) (rg f hf)) ?_
      simp only [go_sem, t5, t6, t34, t35, t36, f1, fa, fb, hw, o1, z16, z26, vv, qn, qc, List.cons_append, List.nil_append, Nat.reduceEqDiff, reduceIte]
      refine f_cmp hN.rat (a := nval true (a + d) (b + e) (c + f)) (b := nval true a b c + nval true d e f) (nsml true _ _ _ (rga _ _ ha hd) (rga _ _ hb he) (rga _ _ hc hf)) (nsum true ha hb hc hd he hf) ?_
      have o2 := nval_tri true a b c d e f
      simp only [go_sem, t5, t6, t34, t35, t36, f1, fa, fb, hw, o1, o2, z16, z26, vv, qn, qc, List.cons_append, List.nil_append, Nat.reduceEqDiff, reduceIte]
      refine VNeg_spec hN.rat hN.each hN.neg (sl a ha) (sl b hb) (sl c hc) (fun H7 N7 g7 => ?_)
      have G7 := G6.trans g7
      have z17 : cellsAt H7 nx1 = _ := (G7.cells (b := nx1) (by omega)).trans q1
      have z27 : cellsAt H7 nx2 = _ := (G7.cells (b := nx2) (by omega)).trans q2
      simp only [qc, List.cons_append, List.nil_append] at z17 z27
      simp only [go_sem, t5, t6, t34, t35, t36, f1, fa, fb, hw, o1, o2, z17, z27, vv, qn, qc, List.cons_append, List.nil_append, Nat.reduceEqDiff, reduceIte]
      refine nfun_spec hN true (rgn _ ha) (rgn _ hb) (rgn _ hc) (fun H8 N8 g8 => ?_)
      have G8 := G7.trans g8
      have z18 : cellsAt H8 nx1 = _ := (G8.cells (b := nx1) (by omega)).trans q1
      have z28 : cellsAt H8 nx2 = _ := (G8.cells (b := nx2) (by omega)).trans q2
      simp only [qc, List.cons_append, List.nil_append] at z18 z28
      simp only [go_sem, t5, t6, t34, t35, t36, f1, fa, fb, hw, o1, o2, z18, z28, vv, qn, qc, List.cons_append, List.nil_append, Nat.reduceEqDiff, reduceIte]
      refine nfun_spec hN true (rg a ha) (rg b hb) (rg c hc) (fun H9 N9 g9 => ?_)
      have G9 := G8.trans g9
      have z19 : cellsAt H9 nx1 = _ := (G9.cells (b := nx1) (by omega)).trans q1
      have z29 : cellsAt H9 nx2 = _ := (G9.cells (b := nx2) (by omega)).trans q2
      simp only [qc, List.cons_append, List.nil_append] at z19 z29
      simp only [go_sem, t5, t6, t34, t35, t36, f1, fa, fb, hw, o1, o2, z19, z29, vv, qn, qc, List.cons_append, List.nil_append, Nat.reduceEqDiff, reduceIte]
      refine f_cmp hN.rat (a := nval true (0 - a) (0 - b) (0 - c)) (b := nval true a b c) (nsml true _ _ _ (rgn _ ha) (rgn _ hb) (rgn _ hc)) (nsml true _ _ _ (rg a ha) (rg b hb) (rg c hc)) ?_
      have o3 : decide (icmp (nval true (0 - a) (0 - b) (0 - c)) (nval true a b c) = 0) = true := by rw [nval_neg]; rfl
      simp only [go_sem, t5, t6, t34, t35, t36, f1, fa, fb, hw, o1, o2, o3, wm, z19, z29, vv, qn, qc, List.cons_append, List.nil_append, Nat.reduceEqDiff, reduceIte]
      refine ⟨r, Nat.lt_succ_self r, m + 1, by omega, ?_, hgr.trans G9, by first | assumption | trivial | rfl, by first | assumption | trivial | rfl, (G9.cells (b := nx2.succ) (by omega)).trans q3, by first | assumption | trivial | rfl, by first | assumption | trivial | rfl, by first | assumption | trivial | rfl, by first | assumption | trivial | rfl, by first | assumption | trivial | rfl⟩
      exact Nat.le_trans hn G9.le
    | false =>
      simp only [go_sem, t5, t6, t34, t35, t36, f1, fa, fb, hw, q1, q2, vv, qn, qc, List.cons_append, List.nil_append, Nat.reduceEqDiff, reduceIte]
      refine nfun_spec hN false (rg a ha) (rg b hb) (rg c hc) (fun H1 N1 g1 => ?_)
      have G1 := g1
      have z11 : cellsAt H1 nx1 = _ := (G1.cells (b := nx1) (by omega)).trans q1
      have z21 : cellsAt H1 nx2 = _ := (G1.cells (b := nx2) (by omega)).trans q2
      simp only [qc, List.cons_append, List.nil_append] at z11 z21
      simp only [go_sem, t5, t6, t34, t35, t36, f1, fa, fb, hw, z11, z21, vv, qn, qc, List.cons_append, List.nil_append, Nat.reduceEqDiff, reduceIte]
      refine norm_spec hN.rat hN.own false (rg a ha) (rg b hb) (rg c hc) (fun H2 N2 g2 => ?_)
      have G2 := G1.trans g2
      have z12 : cellsAt H2 nx1 = _ := (G2.cells (b := nx1) (by omega)).trans q1
      have z22 : cellsAt H2 nx2 = _ := (G2.cells (b := nx2) (by omega)).trans q2
      simp only [qc, List.cons_append, List.nil_append] at z12 z22
      simp only [go_sem, t5, t6, t34, t35, t36, f1, fa, fb, hw, z12, z22, vv, qn, qc, List.cons_append, List.nil_append, Nat.reduceEqDiff, reduceIte]
      refine f_cmp hN.rat (a := nval false a b c) (b := lnrm false a b c) (nsml false _ _ _ (rg a ha) (rg b hb) (rg c hc)) (by rw [← nval_lnrm]; exact nsml false _ _ _ (rg a ha) (rg b hb) (rg c hc)) ?_
      have o1 : decide (icmp (nval false a b c) (lnrm false a b c) = 0) = true := by rw [nval_own]; rfl
      simp only [go_sem, t5, t6, t34, t35, t36, f1, fa, fb, hw, o1, z12, z22, vv, qn, qc, List.cons_append, List.nil_append, Nat.reduceEqDiff, reduceIte]
      refine VAdd_spec hN.rat hN.each hN.add (sl a ha) (sl b hb) (sl c hc) (sl d hd) (sl e he) (sl f hf) (fun H3 N3 g3 => ?_)
      have G3 := G2.trans g3
      have z13 : cellsAt H3 nx1 = _ := (G3.cells (b := nx1) (by omega)).trans q1
      have z23 : cellsAt H3 nx2 = _ := (G3.cells (b := nx2) (by omega)).trans q2
      simp only [qc, List.cons_append, List.nil_append] at z13 z23
      simp only [go_sem, t5, t6, t34, t35, t36, f1, fa, fb, hw, o1, z13, z23, vv, qn, qc, List.cons_append, List.nil_append, Nat.reduceEqDiff, reduceIte]
      refine nfun_spec hN false (rga _ _ ha hd) (rga _ _ hb he) (rga _ _ hc hf) (fun H4 N4 g4 => ?_)
      have G4 := G3.trans g4
      have z14 : cellsAt H4 nx1 = _ := (G4.cells (b := nx1) (by omega)).trans q1
      have z24 : cellsAt H4 nx2 = _ := (G4.cells (b := nx2) (by omega)).trans q2
      simp only [qc, List.cons_append, List.nil_append] at z14 z24
      simp only [go_sem, t5, t6, t34, t35, t36, f1, fa, fb, hw, o1, z14, z24, vv, qn, qc, List.cons_append, List.nil_append, Nat.reduceEqDiff, reduceIte]
      refine nfun_spec hN false (rg a ha) (rg b hb) (rg c hc) (fun H5 N5 g5 => ?_)
      have G5 := G4.trans g5
      have z15 : cellsAt H5 nx1 = _ := (G5.cells (b := nx1) (by omega)).trans q1
      have z25 : cellsAt H5 nx2 = _ := (G5.cells (b := nx2) (by omega)).trans q2
      simp only [qc, List.cons_append, List.nil_append] at z15 z25
      simp only [go_sem, t5, t6, t34, t35, t36, f1, fa, fb, hw, o1, z15, z25, vv, qn, qc, List.cons_append, List.nil_append, Nat.reduceEqDiff, reduceIte]
      refine nfun_spec hN false (rg d hd) (rg e he) (rg f hf) (fun H6 N6 g6 => ?_)
      have G6 := G5.trans g6
      have z16 : cellsAt H6 nx1 = _ := (G6.cells (b := nx1) (by omega)).trans q1
      have z26 : cellsAt H6 nx2 = _ := (G6.cells (b := nx2) (by omega)).trans q2
      simp only [qc, List.cons_append, List.nil_append] at z16 z26
      simp only [go_sem, t5, t6, t34, t35, t36, f1, fa, fb, hw, o1, z16, z26, vv, qn, qc, List.cons_append, List.nil_append, Nat.reduceEqDiff, reduceIte]
      refine f_add hN.rat (a := nval false a b c) (b := nval false d e f) (nsml false _ _ _ (rg a ha) (rg b hb) (rg c hc)) (nsml false _ _ _ (rg d hd) (rg e he) (rg f hf)) ?_
      simp only [go_sem, t5, t6, t34, t35, t36, f1, fa, fb, hw, o1, z16, z26, vv, qn, qc, List.cons_append, List.nil_append, Nat.reduceEqDiff, reduceIte]
      refine f_cmp hN.rat (a := nval false (a + d) (b + e) (c + f)) (b := nval false a b c + nval false d e f) (nsml false _ _ _ (rga _ _ ha hd) (rga _ _ hb he) (rga _ _ hc hf)) (nsum false ha hb hc hd he hf) ?_
      have o2 := nval_tri false a b c d e f
      simp only [go_sem, t5, t6, t34, t35, t36, f1, fa, fb, hw, o1, o2, z16, z26, vv, qn, qc, List.cons_append, List.nil_append, Nat.reduceEqDiff, reduceIte]
      refine VNeg_spec hN.rat hN.each hN.neg (sl a ha) (sl b hb) (sl c hc) (fun H7 N7 g7 => ?_)
      have G7 := G6.trans g7
      have z17 : cellsAt H7 nx1 = _ := (G7.cells (b := nx1) (by omega)).trans q1
      have z27 : cellsAt H7 nx2 = _ := (G7.cells (b := nx2) (by omega)).trans q2
      simp only [qc, List.cons_append, List.nil_append] at z17 z27
      simp only [go_sem, t5, t6, t34, t35, t36, f1, fa, fb, hw, o1, o2, z17, z27, vv, qn, qc, List.cons_append, List.nil_append, Nat.reduceEqDiff, reduceIte]
      refine nfun_spec hN false (rgn _ ha) (rgn _ hb) (rgn _ hc) (fun H8 N8 g8 => ?_)
      have G8 := G7.trans g8
      have z18 : cellsAt H8 nx1 = _ := (G8.cells (b := nx1) (by omega)).trans q1
      have z28 : cellsAt H8 nx2 = _ := (G8.cells (b := nx2) (by omega)).trans q2
      simp only [qc, List.cons_append, List.nil_append] at z18 z28
      simp only [go_sem, t5, t6, t34, t35, t36, f1, fa, fb, hw, o1, o2, z18, z28, vv, qn, qc, List.cons_append, List.nil_append, Nat.reduceEqDiff, reduceIte]
      refine nfun_spec hN false (rg a ha) (rg b hb) (rg c hc) (fun H9 N9 g9 => ?_)
      have G9 := G8.trans g9
      have z19 : cellsAt H9 nx1 = _ := (G9.cells (b := nx1) (by omega)).trans q1
      have z29 : cellsAt H9 nx2 = _ := (G9.cells (b := nx2) (by omega)).trans q2
      simp only [qc, List.cons_append, List.nil_append] at z19 z29
      simp only [go_sem, t5, t6, t34, t35, t36, f1, fa, fb, hw, o1, o2, z19, z29, vv, qn, qc, List.cons_append, List.nil_append, Nat.reduceEqDiff, reduceIte]
      refine f_cmp hN.rat (a := nval false (0 - a) (0 - b) (0 - c)) (b := nval false a b c) (nsml false _ _ _ (rgn _ ha) (rgn _ hb) (rgn _ hc)) (nsml false _ _ _ (rg a ha) (rg b hb) (rg c hc)) ?_
      have o3 : decide (icmp (nval false (0 - a) (0 - b) (0 - c)) (nval false a b c) = 0) = true := by rw [nval_neg]; rfl
      simp only [go_sem, t5, t6, t34, t35, t36, f1, fa, fb, hw, o1, o2, o3, wm, z19, z29, vv, qn, qc, List.cons_append, List.nil_append, Nat.reduceEqDiff, reduceIte]
      refine ⟨r, Nat.lt_succ_self r, m + 1, by omega, ?_, hgr.trans G9, by first | assumption | trivial | rfl, by first | assumption | trivial | rfl, (G9.cells (b := nx2.succ) (by omega)).trans q3, by first | assumption | trivial | rfl, by first | assumption | trivial | rfl, by first | assumption | trivial | rfl, by first | assumption | trivial | rfl, by first | assumption | trivial | rfl⟩
      exact Nat.le_trans hn G9.le
end
end
end Go.AR
namespace Go.AR
open Go.Proofs
noncomputable section
theorem ok258 : FnOk Tryz.prog 258 FYaq := compF_ok (np := 2) Tryz.func258 (by kernel_rfl)
theorem ok261 : FnOk Tryz.prog 261 FYas := compF_ok (np := 2) Tryz.func261 (by kernel_rfl)
theorem ok257 : FnOk Tryz.prog 257 FYar := compF_ok (np := 2) Tryz.func257 (by kernel_rfl)
theorem ok262 : FnOk Tryz.prog 262 FYc := compF_ok (np := 4) Tryz.func262 (by kernel_rfl)
end
end Go.AR
namespace Go.AR
open Go.Proofs
noncomputable section
def fnsCc : Tr Fn := (.nd (.nd .lf none (.nd (.nd (.nd (.nd (.nd (.nd (.nd .lf (some FYar) .lf) none .lf) none .lf) none .lf) none .lf) none .lf) none (.nd (.nd (.nd (.nd (.nd (.nd .lf (some FYas) .lf) none .lf) none .lf) none .lf) none .lf) none .lf))) none (.nd .lf none (.nd (.nd (.nd (.nd (.nd (.nd (.nd .lf (some FYaq) .lf) none .lf) none .lf) none .lf) none .lf) none .lf) none (.nd (.nd (.nd (.nd (.nd (.nd .lf (some FYc) .lf) none .lf) none .lf) none .lf) none .lf) none .lf))))
def orcCc : Tr (List AV → Tr Blk → Pos → Res) := .lf
def lCc : List (Nat × Fn) := [(257, FYar), (258, FYaq), (261, FYas), (262, FYc)]
def mCc : List (Nat × (List AV → Tr Blk → Pos → Res)) := []
theorem fnsCc_eq : fnsCc = mkTab lCc := by kernel_rfl
theorem orcCc_eq : orcCc = mkTab mCc := by kernel_rfl
theorem lCc_ok : AllOk Tryz.prog lCc := .cons ok257 (.cons ok258 (.cons ok261 (.cons ok262 .nil)))
theorem mCc_ok {Z : Nat → Option Obj} (hZ : ZOk Z) : AllOrc Tryz.prog (LOk Tryz.prog Z) mCc := .nil
def Cc : Ctx := ⟨fnsCc, orcCc⟩
theorem Cc_ok {Z : Nat → Option Obj} (hZ : ZOk Z) : CtxOk Tryz.prog (LOk Tryz.prog Z) Cc := ctx_ok fnsCc_eq orcCc_eq lCc_ok (mCc_ok hZ)
end
end Go.AR
namespace Go.AR
open Go.Proofs
noncomputable section
theorem oCsub : Own Cc nYaq FYaq := ⟨by kernel_rfl, by kernel_rfl⟩
theorem oCdot : Own Cc nYas FYas := ⟨by kernel_rfl, by kernel_rfl⟩
theorem oCcross : Own Cc nYar FYar := ⟨by kernel_rfl, by kernel_rfl⟩
theorem oCside : Own Cc nYc FYc := ⟨by kernel_rfl, by kernel_rfl⟩
def x64 (n : Int) : Int := wr .i64 n
theorem x64_eq (n : Int) : x64 n = w64 n := wr_eq _ _
def on33 (F : Int → Int → Int → Int → Int → Int → AV) (vs : List AV) : Option AV :=
  match vs with | [.a [.i .i64 a, .i .i64 b, .i .i64 c], .a [.i .i64 d, .i .i64 e, .i .i64 f]] => some (F a b c d e f) | _ => none
def fSub := on33 fun a b c d e f => v3 (x64 (a - d)) (x64 (b - e)) (x64 (c - f))
def fDot := on33 fun a b c d e f => .i .i64 (x64 (x64 (x64 (a * d) + x64 (b * e)) + x64 (c * f)))
def fCross := on33 fun a b c d e f => v3 (x64 (x64 (b * f) - x64 (c * e))) (x64 (x64 (c * d) - x64 (a * f))) (x64 (x64 (a * e) - x64 (b * d)))
def orcCsub := orcS fSub
def orcCdot := orcS fDot
def orcCcross := orcS fCross
section
variable {Z : Nat → Option Obj} (hZ : ZOk Z)
include hZ
theorem orcCsub_ok : OrcOk Tryz.prog (LOk Tryz.prog Z) 258 orcCsub := orcS_ok ⟨_, _, Tryz.func258, by kernel_rfl, rfl⟩ fun vs r h => by
  unfold fSub on33 at h
  split at h
  · cases h
    simp only [x64_eq]
    exact pure0 mixedT (Cc_ok hZ) (sub_spec oCsub _ _ _ _ _ _ fun h' nx' _ => .same _ rfl)
  · cases h
theorem orcCdot_ok : OrcOk Tryz.prog (LOk Tryz.prog Z) 261 orcCdot := orcS_ok ⟨_, _, Tryz.func261, by kernel_rfl, rfl⟩ fun vs r h => by
  unfold fDot on33 at h
  split at h
  · cases h
    simp only [x64_eq]
    exact pure0 mixedT (Cc_ok hZ) (dot_spec oCdot _ _ _ _ _ _ fun h' nx' _ => .same _ rfl)
  · cases h
theorem orcCcross_ok : OrcOk Tryz.prog (LOk Tryz.prog Z) 257 orcCcross := orcS_ok ⟨_, _, Tryz.func257, by kernel_rfl, rfl⟩ fun vs r h => by
  unfold fCross on33 at h
  split at h
  · cases h
    simp only [x64_eq]
    exact pure0 mixedT (Cc_ok hZ) (cross_spec oCcross _ _ _ _ _ _ fun h' nx' _ => .same _ rfl)
  · cases h
end
end
noncomputable section
attribute [go_sem] Bool.not_true Bool.not_false
abbrev P3 := Int × Int × Int
def av3 (p : P3) : AV := v3 p.1 p.2.1 p.2.2
def cl3 (p : P3) : List AV := [.i .i64 p.1, .i .i64 p.2.1, .i .i64 p.2.2]
def cells3 (l : List P3) : List AV := List.rec [] (fun p _ ih => cl3 p ++ ih) l
theorem cells3_cons (p : P3) (l : List P3) : cells3 (p :: l) = cl3 p ++ cells3 l := rfl
theorem cells3_len : ∀ l : List P3, (cells3 l).length = l.length * 3
  | [] => rfl
  | p :: l => by rw [cells3_cons, List.length_append, cells3_len l, List.length_cons]; show 3 + _ = _; omega
theorem cells3_drop : ∀ (l : List P3) (i : Nat), (cells3 l).drop (i * 3) = cells3 (l.drop i)
  | [], i => by rw [List.drop_nil]; show List.drop _ [] = []; simp
  | p :: l, 0 => by simp
  | p :: l, i + 1 => by
    rw [cells3_cons, List.drop_succ_cons, ← cells3_drop l i, show (i + 1) * 3 = i * 3 + 3 by omega]
    rfl
def ptr3 (kk : Bool) (l : List P3) (i : Nat) : AV := .zp kk (cells3 (l.drop i))
def row3 (kk : Bool) (l : List P3) : AV := .z kk (cells3 l) l.length false
section
variable {h : Tr Blk} {nx : Pos}
theorem row3_addr (kk : Bool) {l : List P3} {i : Nat} (hi : i < l.length) (h : Tr Blk) (nx : Pos) : opv (.iaddrS 3) (some [row3 kk l, .i .i64 (i : Int)]) h nx = .ok (ptr3 kk l i) h nx := by
  show (bif Nat.blt i l.length then zpR kk (dropN (i * 3) (cells3 l)) h nx else .bad) = _
  rw [show Nat.blt i l.length = true from by rw [Nat.blt_eq]; exact hi, cond_true, dropN_eq, cells3_drop]
  unfold ptr3
  rw [List.drop_eq_getElem_cons hi]
  rfl
theorem row3_load (kk : Bool) {l : List P3} {i : Nat} (hi : i < l.length) (h : Tr Blk) (nx : Pos) : opv (.load true 3) (some [ptr3 kk l i]) h nx = .ok (av3 l[i]) h nx := by
  unfold ptr3
  rw [List.drop_eq_getElem_cons hi]
  rfl
theorem row3_len (kk : Bool) (l : List P3) (h : Tr Blk) (nx : Pos) : opv (.len .l) (some [row3 kk l]) h nx = .ok (.i .i64 (l.length : Int)) h nx := rfl
theorem eql3 (a b c d e f : Int) : binV .eql 3 .i (.a [.i .i64 a, .i .i64 b, .i .i64 c]) (.a [.i .i64 d, .i .i64 e, .i .i64 f]) = some (.b (decide (a = d) && (decide (b = e) && decide (c = f)))) := by
  have h0 : binV .eql 3 .i (.a [.i .i64 a, .i .i64 b, .i .i64 c]) (.a [.i .i64 d, .i .i64 e, .i .i64 f]) = eqOp .eql (ceqL .i [.i .i64 a, .i .i64 b, .i .i64 c] [.i .i64 d, .i .i64 e, .i .i64 f]) := rfl
  rw [h0]
  have q : ∀ x y : Int, ceq .i (.i .i64 x) (.i .i64 y) = some (decide (x = y)) := fun x y => by show some (ieq x y) = _; rw [ieq_eq]; rfl
  simp only [ceqL, q]
  cases decide (a = d) <;> cases decide (b = e) <;> cases decide (c = f) <;> rfl
end
def sub3 (p q : P3) : P3 := (w64 (p.1 - q.1), w64 (p.2.1 - q.2.1), w64 (p.2.2 - q.2.2))
def cross3 (p q : P3) : P3 := (w64 (w64 (p.2.1 * q.2.2) - w64 (p.2.2 * q.2.1)), w64 (w64 (p.2.2 * q.1) - w64 (p.1 * q.2.2)), w64 (w64 (p.1 * q.2.1) - w64 (p.2.1 * q.1)))
def dot3 (p q : P3) : Int := w64 (w64 (w64 (p.1 * q.1) + w64 (p.2.1 * q.2.1)) + w64 (p.2.2 * q.2.2))
section
variable {C : Ctx} {h : Tr Blk} {nx : Pos} {K : AV → Tr Blk → Pos → Prop}
structure COwn (C : Ctx) : Prop where
  sub : Own C nYaq FYaq
  dot : Own C nYas FYas
  cross : Own C nYar FYar
  side : Own C nYc FYc
theorem sub_at (hO : COwn C) (p q : P3) (hK : ∀ h' nx', Grow h nx h' nx' → K (av3 (sub3 p q)) h' nx') : Comes C (.f (pos nYaq) []) [av3 p, av3 q] h nx K := sub_spec hO.sub _ _ _ _ _ _ hK
theorem dot_at (hO : COwn C) (p q : P3) (hK : ∀ h' nx', Grow h nx h' nx' → K (.i .i64 (dot3 p q)) h' nx') : Comes C (.f (pos nYas) []) [av3 p, av3 q] h nx K := dot_spec hO.dot _ _ _ _ _ _ hK
theorem cross_at (hO : COwn C) (p q : P3) (hK : ∀ h' nx', Grow h nx h' nx' → K (av3 (cross3 p q)) h' nx') : Comes C (.f (pos nYar) []) [av3 p, av3 q] h nx K := cross_spec hO.cross _ _ _ _ _ _ hK
def shl1 (m : Nat) : Int := IntKind.u64.wrap (1 * 2 ^ (min m 64))
def orU (a b : Int) : Int := IntKind.u64.wrap ((BitVec.ofInt 64 a ||| BitVec.ofInt 64 b).toNat)
theorem b_shl1 (m : Nat) : binV .shl 0 .i (.i .u64 1) (.i .i64 (m : Int)) = some (.i .u64 (shl1 m)) := by
  show (bif ilt (m : Int) 0 then none else some (AV.i .u64 (IntKind.u64.wrap (1 * 2 ^ (min (m : Int).toNat 64))))) = _
  rw [ilt_eq, show decide ((m : Int) < 0) = false by simp]
  rfl
theorem b_orU (a b : Int) : binV .or 0 .i (.i .u64 a) (.i .u64 b) = some (.i .u64 (orU a b)) := rfl
def accS (N p0 : P3) (m : Nat) (l : List P3) : Bool → Bool → Int → Bool × Bool × Int :=
  List.rec (motive := fun _ => Nat → Bool → Bool → Int → Bool × Bool × Int) (fun _ a b s => (a, b, s))
    (fun p _ ih m a b s => bif ilt (dot3 N (sub3 p p0)) 0 then ih (m + 1) true b s else bif ilt 0 (dot3 N (sub3 p p0)) then ih (m + 1) a true s else ih (m + 1) a b (orU s (shl1 m))) l m
theorem accS_cons (N p0 p : P3) (m : Nat) (l : List P3) (a b : Bool) (s : Int) : accS N p0 m (p :: l) a b s =
  bif ilt (dot3 N (sub3 p p0)) 0 then accS N p0 (m + 1) l true b s else bif ilt 0 (dot3 N (sub3 p p0)) then accS N p0 (m + 1) l a true s else accS N p0 (m + 1) l a b (orU s (shl1 m)) := rfl
def sideF (l : List P3) (pi pj pk : P3) : AV :=
  let N := cross3 (sub3 pj pi) (sub3 pk pi)
  bif (decide (N.1 = 0) && (decide (N.2.1 = 0) && decide (N.2.2 = 0))) then .t [.a [.i .i64 0, .i .i64 0, .i .i64 0, .i .u64 0], .b false] else
    match accS N pi 0 l false false 0 with
    | (a, b, s) => .t [.a ((bif b then cl3 (sub3 (0, 0, 0) N) else cl3 N) ++ [.i .u64 s]), .b (!(a == b))]
theorem side_spec (hO : COwn C) (kk : Bool) (l : List P3) (i j k : Nat) (hi : i < l.length) (hj : j < l.length) (hk : k < l.length) (hl : l.length < 4294967296)
    (hK : ∀ h' nx', Grow h nx h' nx' → K (sideF l l[i] l[j] l[k]) h' nx') : Comes C (.f (pos nYc) []) [row3 kk l, .i .i64 (i : Int), .i .i64 (j : Int), .i .i64 (k : Int)] h nx K := by
  refine hO.side.comes (T := ((((Tr.lf.set (pos 0) (row3 kk l)).set (pos 1) (.i .i64 (i : Int))).set (pos 2) (.i .i64 (j : Int))).set (pos 3) (.i .i64 (k : Int)))) rfl ?_
  show wp C Yc0 _ _ _ _
  have a1 := fun h nx => row3_addr kk hi h nx
  have a2 := fun h nx => row3_addr kk hj h nx
  have a3 := fun h nx => row3_addr kk hk h nx
  have b1 := fun h nx => row3_load kk hi h nx
  have b2 := fun h nx => row3_load kk hj h nx
  have b3 := fun h nx => row3_load kk hk h nx
  have e0 := fun h nx => row3_len kk l h nx
  simp only [FYc, go_sem, a1, a2, a3, b1, b2, b3, Nat.reduceEqDiff, reduceIte]
  refine sub_at hO _ _ (fun h1 nx1 g1 => ?_)
  refine sub_at hO _ _ (fun h2 nx2 g2 => ?_)
  refine cross_at hO _ _ (fun h3 nx3 g3 => ?_)
  have g12 := (g1.trans g2).trans g3
  unfold sideF at hK
  generalize hN : cross3 (sub3 l[j] l[i]) (sub3 l[k] l[i]) = N at *
  simp only at hK
  have n1 := lt_s1 nx
  have n2 := lt_s2 nx
  have cr : h3.get nx.succ = some (.cells [.i .i64 0, .i .i64 0, .i .i64 0] 0) := by rw [g12.get _ (by have := lt_s1 nx.succ; omega)]; simp only [go_sem]; try exact Tr.get_set_same _ _ _
  have cq : h3.get nx = some (.cells [.i .i64 0, .i .i64 0, .i .i64 0, .i .u64 0] 0) := by rw [g12.get _ (by omega)]; simp only [go_sem]; try exact Tr.get_set_same _ _ _
  simp only [go_sem, av3, v3, cr, eql3, Nat.reduceEqDiff, reduceIte]
  cases hz : (decide (N.1 = 0) && (decide (N.2.1 = 0) && decide (N.2.2 = 0))) with
  | true =>
    rw [hz] at hK
    simp only [go_sem, hz, cq, Nat.reduceEqDiff, reduceIte]
    refine hK _ _ ?_
    repeat (refine Grow.set ?_ (by omega) _)
    refine Grow.trans ?_ g12
    repeat (refine Grow.set ?_ (by omega) _)
    exact ⟨by omega, fun _ _ => rfl⟩
  | false =>
    simp only [go_sem, hz, cq, e0, Nat.reduceEqDiff, reduceIte]
    have n3 : nx.succ.succ.num ≤ nx3.num := g12.le
    have n4 := lt_s1 nx3
    have n5 := lt_s1 nx.succ
    refine wp_loop (fun r T h' nx' => ∃ m a b s, m + r = l.length ∧ accS N l[i] m (l.drop m) a b s = accS N l[i] 0 l false false 0 ∧ nx3.succ.num ≤ nx'.num ∧ Grow h nx h' nx' ∧
      h'.get nx = some (.cells [.i .i64 0, .i .i64 0, .i .i64 0, .i .u64 0] 0) ∧ h'.get nx.succ = some (.cells [.i .i64 N.1, .i .i64 N.2.1, .i .i64 N.2.2] 0) ∧ h'.get nx3 = some (.cells [.i .i64 N.1, .i .i64 N.2.1, .i .i64 N.2.2, .i .u64 s] 0) ∧
      T.get (pos 0) = some (row3 kk l) ∧ T.get (pos 1) = some (.i .i64 (i : Int)) ∧ T.get (pos 8) = some (.p nx 0) ∧ T.get (pos 10) = some (.p nx.succ 0) ∧ T.get (pos 11) = some (.p nx3 0) ∧ T.get (pos 12) = some (.b a) ∧ T.get (pos 13) = some (.b b) ∧
      T.get (pos 42) = some (row3 kk l) ∧ T.get (pos 43) = some (.i .i64 (l.length : Int)) ∧ T.get (pos 44) = some (.i .i64 (m : Int))) l.length ⟨0, false, false, 0, by omega, rfl, ?_, ?_, ?_, ?_, ?_, ?_, ?_, ?_, ?_, ?_, ?_, ?_, ?_, ?_, ?_⟩ ?_
    · exact Nat.le_refl _
    · refine Grow.new ?_ _
      repeat (refine Grow.set ?_ (by omega) _)
      refine Grow.trans ?_ g12
      repeat (refine Grow.set ?_ (by omega) _)
      exact ⟨by omega, fun _ _ => rfl⟩
    · rw [Tr.get_set_other _ _ (fun e => by rw [e] at n3; omega), Tr.get_set_other _ _ (fun e => by rw [e] at n1; omega)]; exact cq
    · rw [Tr.get_set_other _ _ (fun e => by rw [e] at n3; omega), Tr.get_set_same]
    · rw [Tr.get_set_same]
    iterate 10 · simp only [go_sem, Nat.reduceEqDiff, reduceIte]; try rfl
    rintro r T h' nx' ⟨m, a, b, s, hm, hacc, hn, hgr, q1, q2, q3, t0, t1, t8, t10, t11, t12, t13, t42, t43, t44⟩
    cases r with
    | zero =>
      have f1 : decide ((m : Int) < (l.length : Int)) = false := by simp; omega
      simp only [go_sem, t0, t1, t8, t10, t11, t12, t13, t42, t43, t44, f1, Nat.reduceEqDiff, reduceIte]
      have qc : cellsAt h' nx.succ = some [.i .i64 N.1, .i .i64 N.2.1, .i .i64 N.2.2] := by unfold cellsAt; rw [q2]
      have qd : cellsAt h' nx3 = some [.i .i64 N.1, .i .i64 N.2.1, .i .i64 N.2.2, .i .u64 s] := by unfold cellsAt; rw [q3]
      have hfin : accS N l[i] 0 l false false 0 = (a, b, s) := by
        rw [← hacc, List.drop_of_length_le (by omega)]; rfl
      cases b with
      | false =>
        simp only [go_sem, t0, t1, t8, t10, t11, t12, t13, t42, t43, t44, q1, qc, qd, Nat.reduceEqDiff, reduceIte]
        rw [hz, hfin] at hK
        exact hK _ _ (hgr.set (Nat.le_refl _) _)
      | true =>
        simp only [go_sem, t0, t1, t8, t10, t11, t12, t13, t42, t43, t44, q1, qc, qd, Nat.reduceEqDiff, reduceIte]
        refine sub_at hO (0, 0, 0) N (fun h5 nx5 g5 => ?_)
        have q1' : h5.get nx = _ := (g5.get nx (by omega)).trans q1
        have q3' : h5.get nx3 = _ := (g5.get nx3 (by omega)).trans q3
        have qn : ∀ B, (h5.set nx3 B).get nx = some (.cells [.i .i64 0, .i .i64 0, .i .i64 0, .i .u64 0] 0) := fun B => by rw [Tr.get_set_other _ _ (fun e => by rw [e] at n3; omega)]; exact q1'
        simp only [go_sem, av3, v3, t0, t1, t8, t10, t11, t12, t13, t42, t43, t44, q1', q3', qn, Nat.reduceEqDiff, reduceIte]
        rw [hz, hfin] at hK
        refine hK _ _ ?_
        repeat (refine Grow.set ?_ (by omega) _)
        exact hgr.trans g5
    | succ r =>
      have hml : m < l.length := by omega
      have f1 : decide ((m : Int) < (l.length : Int)) = true := by simp; omega
      have a4 := fun h nx => row3_addr kk hml h nx
      have b4 := fun h nx => row3_load kk hml h nx
      have qc : cellsAt h' nx.succ = some [.i .i64 N.1, .i .i64 N.2.1, .i .i64 N.2.2] := by unfold cellsAt; rw [q2]
      have ne1 : (nx'.num ≠ nx.num) := by omega
      have qx : ∀ B, cellsAt (h'.set nx' B) nx.succ = some [.i .i64 N.1, .i .i64 N.2.1, .i .i64 N.2.2] := fun B => by rw [cells_other B (fun e => by rw [e] at hn; omega)]; exact qc
      simp only [go_sem, av3, v3, t0, t1, t8, t10, t11, t12, t13, t42, t43, t44, f1, a1, b1, a4, b4, qc, qx, Nat.reduceEqDiff, reduceIte]
      refine sub_at hO l[m] l[i] (fun h5 nx5 g5 => ?_)
      have qy : cellsAt h5 nx.succ = some [.i .i64 N.1, .i .i64 N.2.1, .i .i64 N.2.2] := by rw [g5.cells (by have := lt_s1 nx'; omega)]; exact qx _
      simp only [go_sem, qy, Nat.reduceEqDiff, reduceIte]
      refine dot_at hO N _ (fun h6 nx6 g6 => ?_)
      have g56 := g5.trans g6
      have gg : Grow h' nx' h6 nx6 := by
        refine Grow.trans ?_ g56
        refine Grow.new (Grow.refl _ _) _
      have r1 : h6.get nx = _ := (gg.get nx (by omega)).trans q1
      have r2 : h6.get nx.succ = _ := (gg.get nx.succ (by omega)).trans q2
      have r3 : h6.get nx3 = _ := (gg.get nx3 (by omega)).trans q3
      have qz : cellsAt h6 nx3 = some [.i .i64 N.1, .i .i64 N.2.1, .i .i64 N.2.2, .i .u64 s] := by unfold cellsAt; rw [r3]
      have e8 : IntKind.i64.wrap ((m : Int) + 1) = ((m + 1 : Nat) : Int) := by rw [wrap_i64] <;> omega
      generalize hd : dot3 N (sub3 l[m] l[i]) = D at *
      have y1 : ilt D 0 = decide (D < 0) := ilt_eq _ _
      have y2 : ilt 0 D = decide (0 < D) := ilt_eq _ _
      cases x1 : decide (D < 0) with
      | true =>
        rw [x1] at y1
        simp only [go_sem, t0, t1, t8, t10, t11, t12, t13, t42, t43, t44, x1, e8, Nat.reduceEqDiff, reduceIte]
        refine ⟨r, Nat.lt_succ_self r, m + 1, true, b, s, by omega, ?_, ?_, hgr.trans gg, r1, r2, r3, ?_⟩
        · rw [← hacc, List.drop_eq_getElem_cons hml, accS_cons, hd, y1, cond_true]
        · exact Nat.le_trans hn gg.le
        · refine ⟨?_, ?_, ?_, ?_, ?_, ?_, ?_, ?_, ?_, ?_⟩
          all_goals first | assumption | trivial | rfl
      | false =>
        rw [x1] at y1
        cases x2 : decide (0 < D) with
        | true =>
          rw [x2] at y2
          simp only [go_sem, t0, t1, t8, t10, t11, t12, t13, t42, t43, t44, x1, x2, e8, Nat.reduceEqDiff, reduceIte]
          refine ⟨r, Nat.lt_succ_self r, m + 1, a, true, s, by omega, ?_, ?_, hgr.trans gg, r1, r2, r3, ?_⟩
          · rw [← hacc, List.drop_eq_getElem_cons hml, accS_cons, hd, y1, y2, cond_true, cond_false]
          · exact Nat.le_trans hn gg.le
          · refine ⟨?_, ?_, ?_, ?_, ?_, ?_, ?_, ?_, ?_, ?_⟩
            all_goals first | assumption | trivial | rfl
        | false =>
          rw [x2] at y2
          simp only [go_sem, t0, t1, t8, t10, t11, t12, t13, t42, t43, t44, x1, x2, e8, r3, qz, b_shl1, b_orU, Nat.reduceEqDiff, reduceIte]
          refine ⟨r, Nat.lt_succ_self r, m + 1, a, b, orU s (shl1 m), by omega, ?_, ?_, (hgr.trans gg).set (by omega) _, ?_, ?_, ?_, ?_⟩
          · rw [← hacc, List.drop_eq_getElem_cons hml, accS_cons, hd, y1, y2, cond_false, cond_false]
          · exact Nat.le_trans hn gg.le
          · rw [Tr.get_set_other _ _ (fun e => by rw [e] at n3; omega)]; exact r1
          · rw [Tr.get_set_other _ _ (fun e => by rw [e] at n3; omega)]; exact r2
          · first | rfl | exact Tr.get_set_same _ _ _
          · refine ⟨?_, ?_, ?_, ?_, ?_, ?_, ?_, ?_, ?_, ?_⟩
            all_goals first | assumption | trivial | rfl
end
end
end Go.AR
namespace Go.AR
open Go.Proofs
noncomputable section
def ptsN (n : Nat) : List AV → Option (List P3) :=
  Nat.rec (fun l => List.casesOn l (some []) (fun _ _ => none))
    (fun _ ih l => match l with | .i .i64 a :: .i .i64 b :: .i .i64 c :: t => (match ih t with | some r => some ((a, b, c) :: r) | none => none) | _ => none) n
theorem ptsN_ok : ∀ {n : Nat} {l : List AV} {r : List P3}, ptsN n l = some r → l = cells3 r ∧ r.length = n
  | 0, [], r, h => by cases h; exact ⟨rfl, rfl⟩
  | 0, _ :: _, r, h => by cases h
  | n + 1, l, r, h => by
    unfold ptsN at h
    simp only at h
    split at h
    · rename_i a b c t
      split at h
      · rename_i q hq
        cases h
        obtain ⟨h1, h2⟩ := ptsN_ok (show ptsN n t = some q from hq)
        subst h1
        exact ⟨rfl, by rw [List.length_cons, h2]⟩
      · cases h
    · cases h
theorem cells3_pu (k : Bool) : ∀ l : List P3, puL k (cells3 l) = true
  | [] => rfl
  | p :: l => cells3_pu k l
def nthP (l : List P3) (i : Nat) : P3 := List.casesOn (dropN i l) (0, 0, 0) (fun p _ => p)
theorem nthP_eq {l : List P3} {i : Nat} (hi : i < l.length) : nthP l i = l[i] := by
  unfold nthP
  rw [dropN_eq, List.drop_eq_getElem_cons hi]
def s3 (p q : P3) : P3 := (x64 (p.1 - q.1), x64 (p.2.1 - q.2.1), x64 (p.2.2 - q.2.2))
def c3x (p q : P3) : P3 := (x64 (x64 (p.2.1 * q.2.2) - x64 (p.2.2 * q.2.1)), x64 (x64 (p.2.2 * q.1) - x64 (p.1 * q.2.2)), x64 (x64 (p.1 * q.2.1) - x64 (p.2.1 * q.1)))
def d3x (p q : P3) : Int := x64 (x64 (x64 (p.1 * q.1) + x64 (p.2.1 * q.2.1)) + x64 (p.2.2 * q.2.2))
def accX (N p0 : P3) (m : Nat) (l : List P3) : Bool → Bool → Int → Bool × Bool × Int :=
  List.rec (motive := fun _ => Nat → Bool → Bool → Int → Bool × Bool × Int) (fun _ a b s => (a, b, s))
    (fun p _ ih m a b s => bif ilt (d3x N (s3 p p0)) 0 then ih (m + 1) true b s else bif ilt 0 (d3x N (s3 p p0)) then ih (m + 1) a true s else ih (m + 1) a b (orU s (shl1 m))) l m
theorem accX_eq (N p0 : P3) : ∀ (l : List P3) (m : Nat) (a b : Bool) (s : Int), accX N p0 m l a b s = accS N p0 m l a b s
  | [], m, a, b, s => rfl
  | p :: l, m, a, b, s => by
    show (bif ilt (d3x N (s3 p p0)) 0 then accX N p0 (m + 1) l true b s else bif ilt 0 (d3x N (s3 p p0)) then accX N p0 (m + 1) l a true s else accX N p0 (m + 1) l a b (orU s (shl1 m))) = _
    rw [accX_eq N p0 l, accX_eq N p0 l, accX_eq N p0 l, accS_cons]
    simp only [d3x, s3, dot3, sub3, x64_eq]
def sideX (l : List P3) (pi pj pk : P3) : AV :=
  let N := c3x (s3 pj pi) (s3 pk pi)
  bif ieq N.1 0 && (ieq N.2.1 0 && ieq N.2.2 0) then .t [.a [.i .i64 0, .i .i64 0, .i .i64 0, .i .u64 0], .b false] else
    match accX N pi 0 l false false 0 with
    | (a, b, s) => .t [.a ((bif b then cl3 (s3 (0, 0, 0) N) else cl3 N) ++ [.i .u64 s]), .b (!(a == b))]
theorem sideX_eq (l : List P3) (pi pj pk : P3) : sideX l pi pj pk = sideF l pi pj pk := by
  unfold sideX sideF
  simp only [accX_eq, ieq_eq]
  simp only [c3x, s3, cross3, sub3, x64_eq]
  rfl
def orcSide (vs : List AV) (h : Tr Blk) (nx : Pos) : Res :=
  match vs with
  | [v, .i .i64 (.ofNat i), .i .i64 (.ofNat j), .i .i64 (.ofNat k)] => (match slen v, rowOf 3 h v with
    | some n, some l => (match ptsN n l with
      | some ps => bif Nat.blt i n && Nat.blt j n && Nat.blt k n && Nat.blt n 4294967296 then .ok (sideX ps (nthP ps i) (nthP ps j) (nthP ps k)) h nx else .bad
      | none => .bad)
    | _, _ => .bad)
  | _ => .bad
theorem oCell : COwn Cc := ⟨oCsub, oCdot, oCcross, oCside⟩
theorem row_lend {h : Tr Blk} {v : AV} {n : Nat} {l : List AV} {ps : List P3} (hn : slen v = some n) (hl : rowOf 3 h v = some l) (hp : l = cells3 ps) (hps : ps.length = n) : ∃ kk, Fz true h v (row3 kk ps) := by
  subst hp; subst hps
  cases v <;> simp only [slen, reduceCtorEq, Option.some.injEq] at hn
  case ns =>
    have : ps = [] := by cases ps with | nil => rfl | cons p t => cases hn
    subst this
    exact ⟨true, .nil⟩
  case z k l n xx =>
    subst hn
    unfold rowOf at hl
    cases hq : Nat.beq l.length (ps.length * 3) with
    | false => simp [hq] at hl
    | true =>
      simp only [hq, cond_true] at hl; cases hl
      exact ⟨k, .room k _ _ xx (by simp [pu, cells3_pu])⟩
  case sl b o n c =>
    subst hn
    unfold rowOf at hl
    cases hc : cellsAt h b with
    | none => simp [hc] at hl
    | some L =>
      simp only [hc] at hl
      obtain ⟨gr, hb⟩ := cellsAt_some hc
      exact ⟨true, .sl b o _ c 3 gr L _ _ hb hl (FzL.same (cells3_pu true ps))⟩
theorem sideF_pu (l : List P3) (pi pj pk : P3) : pu false (sideF l pi pj pk) = true := by
  unfold sideF
  simp only
  cases (decide ((cross3 (sub3 pj pi) (sub3 pk pi)).1 = 0) && (decide ((cross3 (sub3 pj pi) (sub3 pk pi)).2.1 = 0) && decide ((cross3 (sub3 pj pi) (sub3 pk pi)).2.2 = 0))) with
  | true => rfl
  | false =>
    rcases accS (cross3 (sub3 pj pi) (sub3 pk pi)) pi 0 l false false 0 with ⟨a, b, s⟩
    cases b <;> rfl
theorem orcSide_ok {Z : Nat → Option Obj} (hZ : ZOk Z) : OrcOk Tryz.prog (LOk Tryz.prog Z) 262 orcSide := by
  refine orc_pure LOk.mono ⟨_, _, Tryz.func262, by kernel_rfl, rfl⟩ ?_
  intro vs h nx v h' nx' hx
  unfold orcSide at hx
  split at hx
  · rename_i v0 i j k
    split at hx
    · rename_i n l hn hl
      split at hx
      · rename_i ps hp
        cases hs : (Nat.blt i n && Nat.blt j n && Nat.blt k n && Nat.blt n 4294967296) with
        | false => rw [hs] at hx; cases hx
        | true =>
          rw [hs] at hx
          cases hx
          simp only [Bool.and_eq_true, Nat.blt_eq] at hs
          obtain ⟨⟨⟨h1, h2⟩, h3⟩, h4⟩ := hs
          obtain ⟨hp1, hp2⟩ := ptsN_ok hp
          obtain ⟨kk, hf⟩ := row_lend hn hl hp1 hp2
          subst hp2
          refine ⟨rfl, rfl, [row3 kk ps, .i .i64 (i : Int), .i .i64 (j : Int), .i .i64 (k : Int)], .cons hf (.cons (.same _ rfl) (.cons (.same _ rfl) (.cons (.same _ rfl) .nil))), ?_⟩
          refine pure0 mixedT (Cc_ok hZ) (side_spec oCell kk ps i j k h1 h2 h3 h4 (fun h' nx' _ => ?_))
          rw [sideX_eq, nthP_eq h1, nthP_eq h2, nthP_eq h3]
          exact .same _ (sideF_pu _ _ _ _)
      · cases hx
    · cases hx
  · cases hx
end
end Go.AR
