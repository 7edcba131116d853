import Derived.Test.YtjchghbmniifgaaGreatDoorX01
import Derived.Test.YtjchghbmniifgaaGreatDoorX04
import Derived.Test.YtjchghbmniifgaaGreatDoorX03
import Derived.WalkKit
import Derived.Test.YtjchghbmniifgaaGreatDoorProg
set_option linter.unusedVariables false
set_option linter.unusedSimpArgs false
set_option linter.unusedSectionVars false
set_option linter.constructorNameAsVariable false
set_option linter.defProp false
set_option linter.unnecessarySimpa false
set_option autoImplicit false
namespace Go.AR
def BB : Nat := 4294967296
def Small (ds : List Nat) : Prop := ∀ d ∈ ds, d < BB
structure Can (ds : List Nat) : Prop where
  small : Small ds
  last : ∀ d, ds.getLast? = some d → d ≠ 0
theorem valD_nil : valD [] = 0 := rfl
theorem valD_cons (d : Nat) (ds : List Nat) : valD (d :: ds) = d + BB * valD ds := rfl
theorem valD_append (a b : List Nat) : valD (a ++ b) = valD a + BB ^ a.length * valD b := by
  induction a with
  | nil => simp [valD_nil]
  | cons d a ih =>
    rw [List.cons_append, valD_cons, ih, valD_cons, List.length_cons, Nat.pow_succ, Nat.mul_add, Nat.mul_comm (BB ^ a.length) BB, Nat.mul_assoc]
    omega
theorem valD_snoc (a : List Nat) (d : Nat) : valD (a ++ [d]) = valD a + BB ^ a.length * d := by rw [valD_append, valD_cons, valD_nil]; simp
theorem BB_pos : 0 < BB := by decide
theorem pow_pos' (n : Nat) : 0 < BB ^ n := Nat.pow_pos BB_pos
theorem valD_lt {ds : List Nat} (h : Small ds) : valD ds < BB ^ ds.length := by
  induction ds with
  | nil => simp [valD_nil]
  | cons d ds ih =>
    have h1 : d < BB := h d (by simp)
    have h2 := ih (fun x hx => h x (by simp [hx]))
    rw [valD_cons, List.length_cons, Nat.pow_succ]
    have : BB * valD ds + BB ≤ BB ^ ds.length * BB := by
      have := Nat.mul_le_mul_left BB (show valD ds + 1 ≤ BB ^ ds.length from h2)
      rw [Nat.mul_comm (BB ^ ds.length)]; rw [Nat.mul_add] at this; omega
    omega
theorem Small.append {a b : List Nat} (ha : Small a) (hb : Small b) : Small (a ++ b) := fun d hd => by
  rcases List.mem_append.1 hd with h | h
  · exact ha d h
  · exact hb d h
theorem Small.take {a : List Nat} (ha : Small a) (n : Nat) : Small (a.take n) := fun d hd => ha d (List.mem_of_mem_take hd)
theorem Small.drop {a : List Nat} (ha : Small a) (n : Nat) : Small (a.drop n) := fun d hd => ha d (List.mem_of_mem_drop hd)
theorem Small.get {a : List Nat} (ha : Small a) {i : Nat} (hi : i < a.length) : a[i] < BB := ha _ (List.getElem_mem hi)
theorem Can.nil : Can [] := ⟨fun d h => by simp at h, fun d h => by simp at h⟩
theorem valD_ge {ds : List Nat} (h : Can ds) (hn : ds ≠ []) : BB ^ (ds.length - 1) ≤ valD ds := by
  rcases List.eq_nil_or_concat ds with rfl | ⟨es, d, rfl⟩
  · exact absurd rfl hn
  · rw [List.concat_eq_append] at *
    have hd : d ≠ 0 := h.last d (by simp)
    rw [valD_snoc, List.length_append, List.length_singleton, Nat.add_sub_cancel]
    have : BB ^ es.length * 1 ≤ BB ^ es.length * d := Nat.mul_le_mul_left _ (by omega)
    omega
theorem valD_zero {ds : List Nat} (h : Can ds) : valD ds = 0 ↔ ds = [] := by
  constructor
  · intro h0
    apply Classical.byContradiction
    intro hn
    have := valD_ge h hn
    have := pow_pos' (ds.length - 1)
    omega
  · rintro rfl; rfl
def ordN (x y : Nat) : Int := if x < y then -1 else if y < x then 1 else 0
theorem valD_len_lt {a b : List Nat} (ha : Can a) (hb : Can b) (h : a.length < b.length) : valD a < valD b := by
  have h1 := valD_lt ha.small
  have h2 := valD_ge hb (by intro e; rw [e] at h; simp at h)
  have h3 : BB ^ a.length ≤ BB ^ (b.length - 1) := Nat.pow_le_pow_right BB_pos (by omega)
  omega
theorem valD_top {a b : List Nat} {m : Nat} (ha : Small a) (hb : Small b) (hl : a.length = b.length) (hm : m < a.length) (hd : a.drop (m + 1) = b.drop (m + 1)) (hlt : a[m] < b[m]'(by omega)) : valD a < valD b := by
  have e : ∀ (l : List Nat) (h : m < l.length), valD l = valD (l.take m) + BB ^ m * (l[m] + BB * valD (l.drop (m + 1))) := by
    intro l h
    conv => lhs; rw [← List.take_append_drop m l, List.drop_eq_getElem_cons h, valD_append, valD_cons]
    rw [List.length_take, Nat.min_eq_left (Nat.le_of_lt h)]
  rw [e a hm, e b (by omega), hd]
  have h1 : valD (a.take m) < BB ^ m := by
    have := valD_lt (ha.take m)
    rw [List.length_take, Nat.min_eq_left (Nat.le_of_lt hm)] at this; exact this
  have h2 : BB ^ m * (a[m] + BB * valD (b.drop (m + 1)) + 1) ≤ BB ^ m * (b[m]'(by omega) + BB * valD (b.drop (m + 1))) := Nat.mul_le_mul_left _ (by omega)
  rw [Nat.mul_add _ _ 1] at h2
  omega
@[irreducible] def LIM : Nat := BB ^ 4000000
theorem len_lim {ds : List Nat} (h : Can ds) (hl : valD ds < LIM) : ds.length ≤ 4000000 := by
  apply Classical.byContradiction
  intro hn
  have h1 := valD_ge h (by rintro rfl; simp at hn)
  have h3 : ∀ e, e ≤ ds.length - 1 → BB ^ e ≤ BB ^ (ds.length - 1) := fun e he => Nat.pow_le_pow_right BB_pos he
  have h2 := h3 4000000 (by omega)
  unfold LIM at hl
  omega
structure ZI where
  neg : Bool
  mag : Nat
noncomputable section
def ZI.of (q : Bool) (m : Nat) : ZI := ⟨Bool.and q (Bool.not (Nat.beq m 0)), m⟩
def ZI.neg' (a : ZI) : ZI := ZI.of (Bool.not a.neg) a.mag
def ZI.abs (a : ZI) : ZI := ⟨false, a.mag⟩
def ZI.add (a b : ZI) : ZI :=
  bif a.neg == b.neg then ZI.of a.neg (a.mag + b.mag) else bif Nat.ble b.mag a.mag then ZI.of a.neg (a.mag - b.mag) else ZI.of b.neg (b.mag - a.mag)
def ZI.sub (a b : ZI) : ZI := ZI.add a (ZI.neg' b)
def ZI.mul (a b : ZI) : ZI := ZI.of (!(a.neg == b.neg)) (a.mag * b.mag)
def ordB (x y : Nat) : Int := bif Nat.blt x y then -1 else bif Nat.blt y x then 1 else 0
def ZI.cmp (a b : ZI) : Int := bif a.neg == b.neg then (bif a.neg then ordB b.mag a.mag else ordB a.mag b.mag) else (bif a.neg then -1 else 1)
def ZI.sign (a : ZI) : Int := bif Nat.beq a.mag 0 then 0 else bif a.neg then -1 else 1
def ZI.ofInt (n : Int) : ZI := match n with | .ofNat m => ⟨false, m⟩ | .negSucc m => ⟨true, m + 1⟩
def ZI.gcd (a b : ZI) : ZI := ⟨false, Nat.gcd a.mag b.mag⟩
def ZI.divmod (a b : ZI) : ZI × ZI :=
  let q := ZI.of (!(a.neg == b.neg)) (a.mag / b.mag)
  let r := ZI.of a.neg (a.mag % b.mag)
  bif (!Nat.beq r.mag 0) && !(r.neg == b.neg) then (ZI.sub q ⟨false, 1⟩, ZI.add r b) else (q, r)
end
theorem ordB_eq (x y : Nat) : ordB x y = ordN x y := by
  unfold ordB ordN
  by_cases h1 : x < y
  · rw [if_pos h1, show Nat.blt x y = true from by rw [Nat.blt_eq]; exact h1]; rfl
  · rw [if_neg h1, show Nat.blt x y = false from by cases h : Nat.blt x y with | false => rfl | true => rw [Nat.blt_eq] at h; exact absurd h h1]
    by_cases h2 : y < x
    · rw [if_pos h2, show Nat.blt y x = true from by rw [Nat.blt_eq]; exact h2]; rfl
    · rw [if_neg h2, show Nat.blt y x = false from by cases h : Nat.blt y x with | false => rfl | true => rw [Nat.blt_eq] at h; exact absurd h h2]; rfl
end Go.AR
namespace Go.AR
noncomputable section
section
variable {C : Ctx} {h : Tr Blk} {nx : Pos} {K : AV → Tr Blk → Pos → Prop}
theorem order_spec (hO : Own C nYe FYe) {lo : Nat} {h0 : Tr Blk} {nx0 : Pos} {v u : AV} {ds es : List Nat} (hD : Dg lo h0 nx0 v ds) (hE : Dg lo h0 nx0 u es) (hg : Grow h0 nx0 h nx) (hb : ds.length < 4294967296) (hc : Can ds) (hd : Can es)
    (hK : K (.i .i64 (ordN (valD ds) (valD es))) h nx) : Comes C (.f (pos nYe) []) [v, u] h nx K := by
  refine hO.comes (T := ((Tr.lf.set (pos 0) v).set (pos 1) u)) rfl ?_
  show wp C Ye0 _ _ _ _
  have e1 := hD.len h nx
  have e2 := hE.len h nx
  by_cases hlen : ds.length = es.length
  · have e3 : decide ((ds.length : Int) = (es.length : Int)) = true := by simp [hlen]
    simp only [FYe, go_sem, e1, e2, e3, Bool.not_true, Nat.reduceEqDiff, reduceIte]
    have e4 : IntKind.i64.wrap ((ds.length : Int) - 1) = (ds.length : Int) - 1 := by rw [wrap_i64] <;> omega
    refine wp_loop (fun m T h' nx' => h' = h ∧ nx' = nx ∧ T.get (pos 0) = some v ∧ T.get (pos 1) = some u ∧ T.get (pos 5) = some (.i .i64 ((m : Int) - 1)) ∧ m ≤ ds.length ∧ ds.drop m = es.drop m) ds.length ⟨rfl, rfl, ?_, ?_, ?_, Nat.le_refl _, ?_⟩ ?_
    · simp only [go_sem, Nat.reduceEqDiff, reduceIte]
    · simp only [go_sem, Nat.reduceEqDiff, reduceIte]
    · simp only [go_sem, e4, Nat.reduceEqDiff, reduceIte]
    · rw [List.drop_length, hlen, List.drop_length]
    rintro m T h' nx' ⟨rfl, rfl, hT0, hT1, hT5, hle, hdr⟩
    cases m with
    | zero =>
      have e5 : (!decide (((0 : Nat) : Int) - 1 < 0)) = false := by simp
      simp only [go_sem, hT5, e5, Nat.reduceEqDiff, reduceIte]
      simp only [List.drop_zero] at hdr
      rw [hdr] at hK
      have : ordN (valD es) (valD es) = 0 := by unfold ordN; rw [if_neg (by omega), if_neg (by omega)]
      rw [this] at hK; exact hK
    | succ m =>
      have e5 : (!decide ((((m + 1 : Nat) : Int) - 1) < 0)) = true := by simp
      have e6 : (((m + 1 : Nat) : Int) - 1) = (m : Int) := by omega
      have hlt : m < ds.length := hle
      have hlt' : m < es.length := by omega
      have a1 := hD.addr hlt .i64 h' nx'
      have a2 := hD.load hlt hg.get nx'
      have b1 := hE.addr hlt' .i64 h' nx'
      have b2 := hE.load hlt' hg.get nx'
      by_cases heq : ds[m] = es[m]
      · have e7 : (!decide ((ds[m] : Int) = (es[m] : Int))) = false := by simp [heq]
        have e8 : IntKind.i64.wrap ((m : Int) - 1) = (m : Int) - 1 := by rw [wrap_i64] <;> omega
        rw [e6] at hT5 e5
        simp only [go_sem, hT0, hT1, hT5, e5, a1, a2, b1, b2, dg_int, e7, e8, Nat.reduceEqDiff, reduceIte]
        refine ⟨m, Nat.lt_succ_self m, trivial, trivial, by first | trivial | rfl, by first | trivial | rfl, by first | trivial | rfl, by omega, ?_⟩
        rw [List.drop_eq_getElem_cons hlt, List.drop_eq_getElem_cons hlt', heq, hdr]
      · have e7 : (!decide ((ds[m] : Int) = (es[m] : Int))) = true := by simp; omega
        rw [e6] at hT5 e5
        by_cases hl : ds[m] < es[m]
        · have e8 : decide ((ds[m] : Int) < (es[m] : Int)) = true := by simp; omega
          simp only [go_sem, hT0, hT1, hT5, e5, a1, a2, b1, b2, dg_int, e7, e8, Nat.reduceEqDiff, reduceIte]
          have := valD_top hc.small hd.small hlen hlt hdr hl
          unfold ordN at hK; rw [if_pos this] at hK; exact hK
        · have e8 : decide ((ds[m] : Int) < (es[m] : Int)) = false := by simp; omega
          simp only [go_sem, hT0, hT1, hT5, e5, a1, a2, b1, b2, dg_int, e7, e8, Nat.reduceEqDiff, reduceIte]
          have := valD_top hd.small hc.small hlen.symm hlt' hdr.symm (by omega)
          unfold ordN at hK; rw [if_neg (by omega), if_pos this] at hK; exact hK
  · have e3 : decide ((ds.length : Int) = (es.length : Int)) = false := by simp; omega
    by_cases hlt : ds.length < es.length
    · have e4 : decide ((ds.length : Int) < (es.length : Int)) = true := by simp; omega
      simp only [FYe, go_sem, e1, e2, e3, e4, Bool.not_false, Nat.reduceEqDiff, reduceIte]
      have := valD_len_lt hc hd hlt
      unfold ordN at hK; rw [if_pos this] at hK; exact hK
    · have e4 : decide ((ds.length : Int) < (es.length : Int)) = false := by simp; omega
      simp only [FYe, go_sem, e1, e2, e3, e4, Bool.not_false, Nat.reduceEqDiff, reduceIte]
      have := valD_len_lt hd hc (by omega)
      unfold ordN at hK; rw [if_neg (by omega), if_pos this] at hK; exact hK
end
end
noncomputable section
theorem wrap_u32 (n : Nat) : IntKind.u32.wrap (n : Int) = ((n % BB : Nat) : Int) := by
  simp only [IntKind.wrap, IntKind.bits, IntKind.signed, BB]
  simp
theorem wrap_u64n {n : Nat} (h : n < 18446744073709551616) : IntKind.u64.wrap (n : Int) = (n : Int) := wrap_u64 (by omega) (by omega)
theorem wrap_i64n {n : Nat} (h : n < 9223372036854775808) : IntKind.i64.wrap (n : Int) = (n : Int) := wrap_i64 (by omega) (by omega)
theorem b_shr32 (m : Nat) (e : EK) (n : Nat) (j : IntKind) : binV .shr m e (.i .u64 (n : Int)) (.i j 32) = some (.i .u64 ((n / BB : Nat) : Int)) := by
  have h1 : ∀ q : Bool, (bif q then binI .shr .u64 (n : Int) 32 else bif shiftOp .shr then binI .shr .u64 (n : Int) 32 else none) = binI .shr .u64 (n : Int) 32 := by intro q; cases q <;> rfl
  show (bif keq .u64 j then binI .shr .u64 (n : Int) 32 else bif shiftOp .shr then binI .shr .u64 (n : Int) 32 else none) = _
  rw [h1]
  show some (AV.i .u64 ((n : Int).fdiv (2 ^ 32))) = _
  rw [Int.fdiv_eq_ediv_of_nonneg _ (by decide)]
  congr 2
theorem addr_sl {b : Pos} {o n c s i : Nat} (hi : i < n) (k : IntKind) (h : Tr Blk) (nx : Pos) : opv (.iaddrS s) (some [.sl b o n c, .i k (i : Int)]) h nx = .ok (.p b (o + i * s)) h nx := by
  show (bif Nat.blt i n then Res.ok (.p b (o + i * s)) h nx else .bad) = _
  rw [show Nat.blt i n = true from by rw [Nat.blt_eq]; exact hi]; rfl
theorem fill_next {outs : List Nat} {m d o : Nat} (ho : o = outs.length) :
    spl (o * 1) [.i .u32 (d : Int)] (outs.map dg ++ List.replicate (m + 1) (dg 0)) = some ((outs ++ [d]).map dg ++ List.replicate m (dg 0)) := by
  subst ho
  rw [spl_ok _ _ _ (by simp)]
  congr 1
  rw [show outs.length * 1 = (outs.map dg).length by simp, List.take_left', List.drop_append, List.drop_eq_nil_of_le (by simp)]
  · simp [dg, List.replicate_succ]
  · rfl
section
variable {C : Ctx} {h : Tr Blk} {nx : Pos} {K : AV → Tr Blk → Pos → Prop}
theorem plus_core {lo : Nat} {h0 : Tr Blk} {nx0 : Pos} {v u : AV} {ds es : List Nat} (hD : Dg lo h0 nx0 v ds) (hE : Dg lo h0 nx0 u es) (hg : Grow h0 nx0 h nx) (hb : ds.length < 16777216) (hds : Small ds) (hes : Small es) (hle : es.length ≤ ds.length) (T : Tr AV)
    (hT0 : T.get (pos 0) = some v) (hT1 : T.get (pos 1) = some u)
    (hK : ∀ x out h' nx', Grow h nx h' nx' → Dg nx.num h' nx' x out → Small out → out.length = ds.length + 1 → valD out = valD ds + valD es → K x h' nx') :
    wp C Yf11 (kont C [] (finQ [.t (pos 4)] K)) T h nx := by
  have e1 := fun h' nx' => hD.len h' nx'
  have e2 := fun h' nx' => hE.len h' nx'
  have e3 : IntKind.i64.wrap ((ds.length : Int) + 1) = ((ds.length + 1 : Nat) : Int) := by rw [wrap_i64] <;> omega
  have e4 := mkslice_ok (h := h) (nx := nx) [.i .u32 0] .i64 .i64 (Nat.le_refl (ds.length + 1)) (by omega)
  rw [rep_one] at e4
  simp only [wYf11, go_sem, hT0, hT1, e1, e2, e3, e4, Nat.reduceEqDiff, reduceIte]
  have hgn : ∀ B, Grow h0 nx0 (h.set nx B) nx.succ := fun B => hg.new B
  refine wp_loop (fun m T h' nx' => ∃ i c outs, m + i = ds.length ∧ h' = h.set nx (.cells (outs.map dg ++ List.replicate (m + 1) (dg 0)) 0) ∧ nx' = nx.succ ∧ outs.length = i ∧ Small outs ∧ c ≤ 1 ∧ valD outs + BB ^ i * c = valD (ds.take i) + valD (es.take i) ∧
    T.get (pos 0) = some v ∧ T.get (pos 1) = some u ∧ T.get (pos 20) = some v ∧ T.get (pos 21) = some (.i .i64 (ds.length : Int)) ∧ T.get (pos 22) = some (.i .i64 (i : Int)) ∧ T.get (pos 6) = some (.i .u64 (c : Int)) ∧ T.get (pos 5) = some (.sl nx 0 (ds.length + 1) (ds.length + 1)))
    ds.length ⟨0, 0, [], rfl, rfl, rfl, rfl, (fun d hd => by simp at hd), by omega, rfl, ?_, ?_, ?_, ?_, ?_, ?_, ?_⟩ ?_
  iterate 7 · simp only [go_sem, hT0, hT1, Nat.reduceEqDiff, reduceIte]; try rfl
  rintro m T h' nx' ⟨i, c, outs, hmi, rfl, rfl, hol, hos, hc, hval, hT0, hT1, hT20, hT21, hT22, hT6, hT5⟩
  cases m with
  | zero =>
    have f1 : decide ((i : Int) < (ds.length : Int)) = false := by simp; omega
    have f2 := addr_sl (b := nx) (o := 0) (c := ds.length + 1) (s := 1) (show ds.length < ds.length + 1 by omega) .i64 (h.set nx (.cells (outs.map dg ++ List.replicate (0 + 1) (dg 0)) 0)) nx.succ
    have f3 : IntKind.u32.wrap (c : Int) = (c : Int) := by rw [wrap_u32, Nat.mod_eq_of_lt (by unfold BB; omega)]
    have f4 : spl (ds.length * 1) [.i .u32 (c : Int)] (outs.map dg ++ List.replicate 1 (dg 0)) = some ((outs ++ [c]).map dg ++ List.replicate 0 (dg 0)) := fill_next (by omega)
    simp only [go_sem, hT0, hT1, hT20, hT21, hT22, hT6, hT5, f1, e1, f2, f3, f4, Nat.reduceEqDiff, reduceIte]
    refine hK _ (outs ++ [c]) _ _ ((Grow.refl h nx).new _) ?_ (hos.append (fun d hd => by simp at hd; subst hd; unfold BB; omega)) (by simp; omega) ?_
    · have : Dg nx.num (h.set nx (.cells ((outs ++ [c]).map dg ++ List.replicate 0 (dg 0)) 0)) nx.succ (.sl nx 0 (outs ++ [c]).length (ds.length + 1)) (outs ++ [c]) :=
        .sl nx 0 _ _ 0 _ _ (Tr.get_set_same _ _ _) (by simp) ⟨[], [], by simp, rfl⟩ (by simp; omega) (succ_num _) (.inl rfl) (Nat.le_refl _)
      rw [show (outs ++ [c]).length = ds.length + 1 by simp; omega] at this
      exact this
    · rw [valD_snoc, hol, hval, List.take_of_length_le (by omega), List.take_of_length_le (by omega)]
  | succ m =>
    have hlt : i < ds.length := by omega
    have f1 : decide ((i : Int) < (ds.length : Int)) = true := by simp; omega
    have g : ∀ b : Pos, b.num < nx0.num → (h.set nx (.cells (outs.map dg ++ List.replicate (m + 1 + 1) (dg 0)) 0)).get b = h0.get b := (hgn _).get
    have a1 := hD.addr hlt .i64 (h.set nx (.cells (outs.map dg ++ List.replicate (m + 1 + 1) (dg 0)) 0)) nx.succ
    have a2 := hD.load hlt g nx.succ
    have hdi := hds.get hlt
    have f2 := addr_sl (b := nx) (o := 0) (c := ds.length + 1) (s := 1) (show i < ds.length + 1 by omega) .i64 (h.set nx (.cells (outs.map dg ++ List.replicate (m + 1 + 1) (dg 0)) 0)) nx.succ
    have f5 : IntKind.i64.wrap ((i : Int) + 1) = ((i + 1 : Nat) : Int) := by rw [wrap_i64] <;> omega
    have f6 : IntKind.u64.wrap ((ds[i] : Nat) : Int) = (ds[i] : Int) := wrap_u64n (by unfold BB at hdi; omega)
    have f7 : IntKind.u64.wrap ((c : Int) + (ds[i] : Int)) = ((c + ds[i] : Nat) : Int) := by rw [← Int.natCast_add]; exact wrap_u64n (by unfold BB at hdi; omega)
    have next : ∀ e : Nat, e < BB → valD (es.take (i + 1)) = valD (es.take i) + BB ^ i * e → ∃ outs', outs' = outs ++ [(c + ds[i] + e) % BB] ∧ outs'.length = i + 1 ∧ Small outs' ∧ (c + ds[i] + e) / BB ≤ 1 ∧ valD outs' + BB ^ (i + 1) * ((c + ds[i] + e) / BB) = valD (ds.take (i + 1)) + valD (es.take (i + 1)) := by
      intro e he hv
      refine ⟨_, rfl, by simp [hol], hos.append (fun d hd => by simp at hd; subst hd; exact Nat.mod_lt _ BB_pos), ?_, ?_⟩
      · have : c + ds[i] + e < BB * 2 := by omega
        have := Nat.div_lt_of_lt_mul this
        omega
      · rw [valD_snoc, hol, hv, List.take_succ_eq_append_getElem hlt, valD_snoc, List.length_take, Nat.min_eq_left (Nat.le_of_lt hlt), Nat.pow_succ]
        have h1 := Nat.div_add_mod (c + ds[i] + e) BB
        have h2 : BB ^ i * ((c + ds[i] + e) % BB) + BB ^ i * BB * ((c + ds[i] + e) / BB) = BB ^ i * (c + ds[i] + e) := by
          rw [Nat.mul_assoc, ← Nat.mul_add]; congr 1; omega
        rw [Nat.mul_add, Nat.mul_add] at h2
        omega
    by_cases hie : i < es.length
    · have b0 : decide ((i : Int) < (es.length : Int)) = true := by simp; omega
      have b1 := hE.addr hie .i64 (h.set nx (.cells (outs.map dg ++ List.replicate (m + 1 + 1) (dg 0)) 0)) nx.succ
      have b2 := hE.load hie g nx.succ
      have hei := hes.get hie
      have f8 : IntKind.u64.wrap ((es[i] : Nat) : Int) = (es[i] : Int) := wrap_u64n (by unfold BB at hei; omega)
      have f9 : IntKind.u64.wrap (((c + ds[i] : Nat) : Int) + (es[i] : Int)) = ((c + ds[i] + es[i] : Nat) : Int) := by rw [← Int.natCast_add]; exact wrap_u64n (by unfold BB at hdi hei; omega)
      have f10 := wrap_u32 (c + ds[i] + es[i])
      have f4 := fill_next (outs := outs) (m := m + 1) (d := (c + ds[i] + es[i]) % BB) (o := i) hol.symm
      simp only [go_sem, hT0, hT1, hT20, hT21, hT22, hT6, hT5, f1, e1, e2, a1, a2, b0, b1, b2, f2, f4, f5, f6, f7, f8, f9, f10, b_shr32, Nat.reduceEqDiff, reduceIte]
      obtain ⟨outs', ho, h1, h2, h3, h4⟩ := next es[i] hei (by rw [List.take_succ_eq_append_getElem hie, valD_snoc, List.length_take, Nat.min_eq_left (Nat.le_of_lt hie)])
      refine ⟨m, Nat.lt_succ_self m, i + 1, _, outs', by omega, by rw [ho], by first | trivial | rfl, h1, h2, h3, h4, ?_, ?_, ?_, ?_, ?_, ?_, ?_⟩ <;> first | assumption | trivial | rfl
    · have b0 : decide ((i : Int) < (es.length : Int)) = false := by simp; omega
      have f10 := wrap_u32 (c + ds[i])
      have f4 := fill_next (outs := outs) (m := m + 1) (d := (c + ds[i]) % BB) (o := i) hol.symm
      simp only [go_sem, hT0, hT1, hT20, hT21, hT22, hT6, hT5, f1, e1, e2, a1, a2, b0, f2, f4, f5, f6, f7, f10, b_shr32, Nat.reduceEqDiff, reduceIte]
      obtain ⟨outs', ho, h1, h2, h3, h4⟩ := next 0 BB_pos (by rw [List.take_of_length_le (by omega), List.take_of_length_le (by omega)]; rfl)
      rw [Nat.add_zero] at ho h3 h4
      refine ⟨m, Nat.lt_succ_self m, i + 1, _, outs', by omega, by rw [ho], by first | trivial | rfl, h1, h2, h3, h4, ?_, ?_, ?_, ?_, ?_, ?_, ?_⟩ <;> first | assumption | trivial | rfl
theorem plus_spec (hO : Own C nYf FYf) {lo : Nat} {h0 : Tr Blk} {nx0 : Pos} {v u : AV} {ds es : List Nat} (hD : Dg lo h0 nx0 v ds) (hE : Dg lo h0 nx0 u es) (hg : Grow h0 nx0 h nx) (hb : ds.length < 16777216) (hb' : es.length < 16777216) (hds : Small ds) (hes : Small es)
    (hK : ∀ x out h' nx', Grow h nx h' nx' → Dg nx.num h' nx' x out → Small out → out.length ≤ ds.length + es.length + 1 → valD out = valD ds + valD es → K x h' nx') :
    Comes C (.f (pos nYf) []) [v, u] h nx K := by
  refine hO.comes (T := ((Tr.lf.set (pos 0) v).set (pos 1) u)) rfl ?_
  show wp C Yf0 _ _ _ _
  have e1 := fun h' nx' => hD.len h' nx'
  have e2 := fun h' nx' => hE.len h' nx'
  by_cases hlt : ds.length < es.length
  · have f1 : decide ((ds.length : Int) < (es.length : Int)) = true := by simp; omega
    simp only [FYf, go_sem, e1, e2, f1, Nat.reduceEqDiff, reduceIte]
    refine plus_core hE hD hg hb' hes hds (Nat.le_of_lt hlt) _ ?_ ?_ (fun x out h' nx' a b c d e => hK x out h' nx' a b c (by omega) (by omega)) <;> simp only [go_sem, Nat.reduceEqDiff, reduceIte]
  · have f1 : decide ((ds.length : Int) < (es.length : Int)) = false := by simp; omega
    simp only [FYf, go_sem, e1, e2, f1, Nat.reduceEqDiff, reduceIte]
    refine plus_core hD hE hg hb hds hes (by omega) _ ?_ ?_ (fun x out h' nx' a b c d e => hK x out h' nx' a b c (by omega) (by omega)) <;> simp only [go_sem, Nat.reduceEqDiff, reduceIte]
theorem wrap_u32' (t : Nat) : IntKind.u32.wrap ((t : Int) - 4294967296) = ((t % BB : Nat) : Int) := by
  rw [← wrap_u32]
  simp only [IntKind.wrap, IntKind.bits, IntKind.signed]
  simp
theorem minus_spec (hO : Own C nYg FYg) {lo : Nat} {h0 : Tr Blk} {nx0 : Pos} {v u : AV} {ds es : List Nat} (hD : Dg lo h0 nx0 v ds) (hE : Dg lo h0 nx0 u es) (hg : Grow h0 nx0 h nx) (hb : ds.length < 16777216) (hds : Small ds) (hes : Small es) (hle : es.length ≤ ds.length) (hval : valD es ≤ valD ds)
    (hK : ∀ x out h' nx', Grow h nx h' nx' → Dg nx.num h' nx' x out → Small out → out.length = ds.length → valD out = valD ds - valD es → K x h' nx') :
    Comes C (.f (pos nYg) []) [v, u] h nx K := by
  refine hO.comes (T := ((Tr.lf.set (pos 0) v).set (pos 1) u)) rfl ?_
  show wp C Yg0 _ _ _ _
  have e1 := fun h' nx' => hD.len h' nx'
  have e2 := fun h' nx' => hE.len h' nx'
  have e4 := mkslice_ok (h := h) (nx := nx) [.i .u32 0] .i64 .i64 (Nat.le_refl ds.length) (by omega)
  rw [rep_one] at e4
  simp only [FYg, go_sem, e1, e2, e4, Nat.reduceEqDiff, reduceIte]
  have hgn : ∀ B, Grow h0 nx0 (h.set nx B) nx.succ := fun B => hg.new B
  refine wp_loop (fun m T h' nx' => ∃ i w outs, m + i = ds.length ∧ h' = h.set nx (.cells (outs.map dg ++ List.replicate m (dg 0)) 0) ∧ nx' = nx.succ ∧ outs.length = i ∧ Small outs ∧ w ≤ 1 ∧ valD outs + valD (es.take i) = valD (ds.take i) + BB ^ i * w ∧
    T.get (pos 1) = some u ∧ T.get (pos 13) = some v ∧ T.get (pos 14) = some (.i .i64 (ds.length : Int)) ∧ T.get (pos 15) = some (.i .i64 (i : Int)) ∧ T.get (pos 6) = some (.i .i64 (w : Int)) ∧ T.get (pos 5) = some (.sl nx 0 ds.length ds.length))
    ds.length ⟨0, 0, [], rfl, rfl, rfl, rfl, (fun d hd => by simp at hd), by omega, rfl, ?_, ?_, ?_, ?_, ?_, ?_⟩ ?_
  iterate 6 · simp only [go_sem, Nat.reduceEqDiff, reduceIte]; try rfl
  rintro m T h' nx' ⟨i, w, outs, hmi, rfl, rfl, hol, hos, hw, hv, hT1, hT13, hT14, hT15, hT6, hT5⟩
  cases m with
  | zero =>
    have f1 : decide ((i : Int) < (ds.length : Int)) = false := by simp; omega
    simp only [go_sem, hT1, hT13, hT14, hT15, hT6, hT5, f1, Nat.reduceEqDiff, reduceIte]
    rw [List.take_of_length_le (by omega), List.take_of_length_le (by omega)] at hv
    have h1 := valD_lt hos
    rw [hol] at h1
    have hw0 : w = 0 := by
      rcases (show w = 0 ∨ w = 1 by omega) with h | h
      · exact h
      · exfalso; subst h; rw [Nat.mul_one] at hv; omega
    subst hw0
    rw [Nat.mul_zero] at hv
    refine hK _ outs _ _ ((Grow.refl h nx).new _) ?_ hos (by omega) (by omega)
    have : Dg nx.num (h.set nx (.cells (outs.map dg ++ List.replicate 0 (dg 0)) 0)) nx.succ (.sl nx 0 outs.length ds.length) outs :=
      .sl nx 0 _ _ 0 _ _ (Tr.get_set_same _ _ _) (by simp) ⟨[], [], by simp, rfl⟩ (by omega) (succ_num _) (.inl rfl) (Nat.le_refl _)
    rw [show outs.length = ds.length by omega] at this
    exact this
  | succ m =>
    have hlt : i < ds.length := by omega
    have f1 : decide ((i : Int) < (ds.length : Int)) = true := by simp; omega
    have g : ∀ b : Pos, b.num < nx0.num → (h.set nx (.cells (outs.map dg ++ List.replicate (m + 1) (dg 0)) 0)).get b = h0.get b := (hgn _).get
    have a1 := hD.addr hlt .i64 (h.set nx (.cells (outs.map dg ++ List.replicate (m + 1) (dg 0)) 0)) nx.succ
    have a2 := hD.load hlt g nx.succ
    have hdi := hds.get hlt
    have f2 := addr_sl (b := nx) (o := 0) (c := ds.length) (s := 1) hlt .i64 (h.set nx (.cells (outs.map dg ++ List.replicate (m + 1) (dg 0)) 0)) nx.succ
    have f5 : IntKind.i64.wrap ((i : Int) + 1) = ((i + 1 : Nat) : Int) := by rw [wrap_i64] <;> omega
    have f6 : IntKind.i64.wrap ((ds[i] : Nat) : Int) = (ds[i] : Int) := wrap_i64n (by unfold BB at hdi; omega)
    have f7 : IntKind.i64.wrap ((ds[i] : Int) - (w : Int)) = (ds[i] : Int) - (w : Int) := by unfold BB at hdi; rw [wrap_i64] <;> omega
    have next : ∀ e : Nat, e < BB → valD (es.take (i + 1)) = valD (es.take i) + BB ^ i * e → ∀ q : Nat, q ≤ 1 → (q = 1 ↔ ds[i] < w + e) →
        ∃ outs', outs' = outs ++ [(ds[i] + BB - w - e) % BB] ∧ outs'.length = i + 1 ∧ Small outs' ∧ valD outs' + valD (es.take (i + 1)) = valD (ds.take (i + 1)) + BB ^ (i + 1) * q := by
      intro e he hv' q hq hq'
      refine ⟨_, rfl, by simp [hol], hos.append (fun d hd => by simp at hd; subst hd; exact Nat.mod_lt _ BB_pos), ?_⟩
      have h1 : (ds[i] + BB - w - e) % BB + w + e = ds[i] + BB * q := by
        by_cases hc : ds[i] < w + e
        · have : q = 1 := hq'.2 hc
          subst this
          rw [Nat.mod_eq_of_lt (by omega)]; omega
        · have : q = 0 := by
            rcases (show q = 0 ∨ q = 1 by omega) with h | h
            · exact h
            · exact absurd (hq'.1 h) hc
          subst this
          rw [show ds[i] + BB - w - e = (ds[i] - w - e) + BB by omega, Nat.add_mod_right, Nat.mod_eq_of_lt (by omega)]; omega
      rw [valD_snoc, hol, hv', List.take_succ_eq_append_getElem hlt, valD_snoc, List.length_take, Nat.min_eq_left (Nat.le_of_lt hlt), Nat.pow_succ]
      have h2 : BB ^ i * ((ds[i] + BB - w - e) % BB) + BB ^ i * w + BB ^ i * e = BB ^ i * ds[i] + BB ^ i * BB * q := by
        rw [Nat.mul_assoc, ← Nat.mul_add, ← Nat.mul_add, ← Nat.mul_add, h1]
      omega
    have fin : ∀ (e : Nat), e < BB → valD (es.take (i + 1)) = valD (es.take i) + BB ^ i * e → True := fun _ _ _ => trivial
    by_cases hie : i < es.length
    · have b0 : decide ((i : Int) < (es.length : Int)) = true := by simp; omega
      have b1 := hE.addr hie .i64 (h.set nx (.cells (outs.map dg ++ List.replicate (m + 1) (dg 0)) 0)) nx.succ
      have b2 := hE.load hie g nx.succ
      have hei := hes.get hie
      have f8 : IntKind.i64.wrap ((es[i] : Nat) : Int) = (es[i] : Int) := wrap_i64n (by unfold BB at hei; omega)
      have f9 : IntKind.i64.wrap ((ds[i] : Int) - (w : Int) - (es[i] : Int)) = ((ds[i] + BB - w - es[i] : Nat) : Int) - 4294967296 := by unfold BB at hdi hei ⊢; rw [wrap_i64] <;> omega
      have f10 := wrap_u32' (ds[i] + BB - w - es[i])
      have f4 := fill_next (outs := outs) (m := m) (d := (ds[i] + BB - w - es[i]) % BB) (o := i) hol.symm
      have hv' : valD (es.take (i + 1)) = valD (es.take i) + BB ^ i * es[i] := by rw [List.take_succ_eq_append_getElem hie, valD_snoc, List.length_take, Nat.min_eq_left (Nat.le_of_lt hie)]
      by_cases hneg : ds[i] < w + es[i]
      · have f11 : decide (((ds[i] + BB - w - es[i] : Nat) : Int) - 4294967296 < 0) = true := by unfold BB at hdi hei ⊢; simp; omega
        simp only [go_sem, hT1, hT13, hT14, hT15, hT6, hT5, f1, e1, e2, a1, a2, b0, b1, b2, f2, f4, f5, f6, f7, f8, f9, f10, f11, Nat.reduceEqDiff, reduceIte]
        obtain ⟨outs', ho, h1, h2, h3⟩ := next es[i] hei hv' 1 (Nat.le_refl _) (by simp [hneg])
        refine ⟨m, Nat.lt_succ_self m, i + 1, 1, outs', by omega, by rw [ho], by first | trivial | rfl, h1, h2, by omega, h3, ?_, ?_, ?_, ?_, ?_, ?_⟩ <;> first | assumption | trivial | rfl
      · have f11 : decide (((ds[i] + BB - w - es[i] : Nat) : Int) - 4294967296 < 0) = false := by unfold BB at hdi hei ⊢; simp; omega
        simp only [go_sem, hT1, hT13, hT14, hT15, hT6, hT5, f1, e1, e2, a1, a2, b0, b1, b2, f2, f4, f5, f6, f7, f8, f9, f10, f11, Nat.reduceEqDiff, reduceIte]
        obtain ⟨outs', ho, h1, h2, h3⟩ := next es[i] hei hv' 0 (by omega) (by simp; omega)
        refine ⟨m, Nat.lt_succ_self m, i + 1, 0, outs', by omega, by rw [ho], by first | trivial | rfl, h1, h2, by omega, h3, ?_, ?_, ?_, ?_, ?_, ?_⟩ <;> first | assumption | trivial | rfl
    · have b0 : decide ((i : Int) < (es.length : Int)) = false := by simp; omega
      have f9 : (ds[i] : Int) - (w : Int) = ((ds[i] + BB - w - 0 : Nat) : Int) - 4294967296 := by unfold BB at hdi ⊢; omega
      rw [f9] at f7
      have f10 := wrap_u32' (ds[i] + BB - w - 0)
      have f4 := fill_next (outs := outs) (m := m) (d := (ds[i] + BB - w - 0) % BB) (o := i) hol.symm
      have hv' : valD (es.take (i + 1)) = valD (es.take i) + BB ^ i * 0 := by rw [List.take_of_length_le (by omega), List.take_of_length_le (by omega)]; rfl
      by_cases hneg : ds[i] < w + 0
      · have f11 : decide (((ds[i] + BB - w - 0 : Nat) : Int) - 4294967296 < 0) = true := by unfold BB at hdi ⊢; simp; omega
        simp only [go_sem, hT1, hT13, hT14, hT15, hT6, hT5, f1, e1, e2, a1, a2, b0, f2, f4, f5, f6, f9, f7, f10, f11, Nat.reduceEqDiff, reduceIte]
        obtain ⟨outs', ho, h1, h2, h3⟩ := next 0 BB_pos hv' 1 (Nat.le_refl _) (by simp; omega)
        refine ⟨m, Nat.lt_succ_self m, i + 1, 1, outs', by omega, by rw [ho], by first | trivial | rfl, h1, h2, by omega, h3, ?_, ?_, ?_, ?_, ?_, ?_⟩ <;> first | assumption | trivial | rfl
      · have f11 : decide (((ds[i] + BB - w - 0 : Nat) : Int) - 4294967296 < 0) = false := by unfold BB at hdi ⊢; simp; omega
        simp only [go_sem, hT1, hT13, hT14, hT15, hT6, hT5, f1, e1, e2, a1, a2, b0, f2, f4, f5, f6, f9, f7, f10, f11, Nat.reduceEqDiff, reduceIte]
        obtain ⟨outs', ho, h1, h2, h3⟩ := next 0 BB_pos hv' 0 (by omega) (by simp; omega)
        refine ⟨m, Nat.lt_succ_self m, i + 1, 0, outs', by omega, by rw [ho], by first | trivial | rfl, h1, h2, by omega, h3, ?_, ?_, ?_, ?_, ?_, ?_⟩ <;> first | assumption | trivial | rfl
end
end
noncomputable section
structure Zv (lo : Nat) (h : Tr Blk) (nx : Pos) (c : AV) (a : ZI) : Prop where
  dig : ∃ v ds, c = .a [.b a.neg, v] ∧ Dg lo h nx v ds ∧ Can ds ∧ valD ds = a.mag
theorem Zv.grow {lo : Nat} {h h' : Tr Blk} {nx nx' : Pos} {c : AV} {a : ZI} (hz : Zv lo h nx c a) (hg : Grow h nx h' nx') : Zv lo h' nx' c a := by
  obtain ⟨v, ds, h1, h2, h3, h4⟩ := hz.dig
  exact ⟨v, ds, h1, h2.grow hg, h3, h4⟩
theorem trimD_can {ds : List Nat} (hs : Small ds) : Can (trimD ds) ∧ valD (trimD ds) = valD ds ∧ (trimD ds).length ≤ ds.length := by
  induction hn : ds.length generalizing ds with
  | zero =>
    have : ds = [] := List.length_eq_zero_iff.1 hn
    subst this; exact ⟨Can.nil, rfl, Nat.le_refl _⟩
  | succ n ih =>
    rcases List.eq_nil_or_concat ds with rfl | ⟨es, d, rfl⟩
    · simp at hn
    · rw [List.concat_eq_append] at *
      rw [trimD_snoc]
      by_cases hd : d = 0
      · subst hd
        obtain ⟨h1, h2, h3⟩ := ih (ds := es) (fun x hx => hs x (by simp [hx])) (by simpa using hn)
        rw [if_pos rfl]
        exact ⟨h1, by rw [h2, valD_snoc, Nat.mul_zero, Nat.add_zero], by omega⟩
      · rw [if_neg hd]
        exact ⟨⟨hs, fun x hx => by simp at hx; rw [← hx]; exact hd⟩, rfl, by omega⟩
theorem isEmpty_val {ds : List Nat} (hc : Can ds) : (!ds.isEmpty) = !Nat.beq (valD ds) 0 := by
  cases ds with
  | nil => rfl
  | cons a t =>
    have : valD (a :: t) ≠ 0 := fun h => by have := (valD_zero hc).1 h; cases this
    have : Nat.beq (valD (a :: t)) 0 = false := by cases h : Nat.beq (valD (a :: t)) 0 with | false => rfl | true => exact absurd (Nat.eq_of_beq_eq_true h) this
    rw [this]; rfl
section
variable {C : Ctx} {h : Tr Blk} {nx : Pos} {K : AV → Tr Blk → Pos → Prop}
theorem signed_num (hO : Own C nYac FYac) (hT : Own C nYw FYw) {lo : Nat} {h0 : Tr Blk} {nx0 : Pos} {v : AV} {ds : List Nat} (hD : Dg lo h0 nx0 v ds) (hg : Grow h0 nx0 h nx) (hb : ds.length < 4294967296) (hs : Small ds) (q : Bool)
    (hK : ∀ c h' nx', Grow h nx h' nx' → Zv lo h0 nx0 c (ZI.of q (valD ds)) → K c h' nx') : Comes C (.f (pos nYac) []) [.b q, v] h nx K := by
  refine signed_spec hO hT hD hg hb q (fun u h' nx' hgr hu => ?_)
  obtain ⟨h1, h2, h3⟩ := trimD_can hs
  refine hK _ h' nx' hgr ⟨u, trimD ds, ?_, hu, h1, h2⟩
  rw [isEmpty_val h1, h2]; rfl
theorem rs_box {h : Tr Blk} {b : Pos} {l : List AV} {g : Nat} {n : Nat} (hb : h.get b = some (.cells l g)) (hn : l.length = n) : rsC true n (some (.p b 0)) h = some (.a l) := by
  subst hn
  simp only [rsC, cells_get hb]
  show (Option.casesOn (sub 0 l.length l) none (fun r => some (.a r)) : Option AV) = _
  have := sub_some (p := []) (l := l) (q := []) rfl rfl
  simp at this
  rw [this]
theorem Add_spec (hO : Own C nYm FYm) (hT : Own C nYw FYw) (hS : Own C nYac FYac) (hP : Own C nYf FYf) (hM : Own C nYg FYg) (hR : Own C nYe FYe)
    {lo : Nat} {h0 : Tr Blk} {nx0 : Pos} {c d : AV} {a b : ZI} (hA : Zv lo h0 nx0 c a) (hB : Zv lo h0 nx0 d b) (hg : Grow h0 nx0 h nx) (hla : a.mag < LIM) (hlb : b.mag < LIM)
    (hK : ∀ c h' nx', Grow h nx h' nx' → Zv nx.num h' nx' c (ZI.add a b) → K c h' nx') : Comes C (.f (pos nYm) []) [c, d] h nx K := by
  obtain ⟨v, ds, rfl, hD, hcd, hvd⟩ := hA.dig
  obtain ⟨u, es, rfl, hE, hce, hve⟩ := hB.dig
  refine hO.comes (T := ((Tr.lf.set (pos 0) (.a [.b a.neg, v])).set (pos 1) (.a [.b b.neg, u]))) rfl ?_
  show wp C Ym0 _ _ _ _
  have hld := len_lim hcd (by rw [hvd]; exact hla)
  have hle := len_lim hce (by rw [hve]; exact hlb)
  simp only [FYm, go_sem, Nat.reduceEqDiff, reduceIte]
  have hg3 := ((hg.new (.cells [.b a.neg, v] 0)).new (.cells [.b b.neg, u] 0)).new (.cells [.b false, .ns] 0)
  have hn3 := (((Grow.refl h nx).new (.cells [.b a.neg, v] 0)).new (.cells [.b b.neg, u] 0)).new (.cells [.b false, .ns] 0)
  have fin : ∀ (T : Tr AV) (c : AV) (h' : Tr Blk) (nx' : Pos), Grow (((h.set nx (.cells [.b a.neg, v] 0)).set nx.succ (.cells [.b b.neg, u] 0)).set nx.succ.succ (.cells [.b false, .ns] 0)) nx.succ.succ.succ h' nx' → Zv nx.succ.succ.succ.num h' nx' c (ZI.add a b) →
      ∃ p q, c = .a [.b p, q] ∧ scal q = true ∧ cellsOf q = [q] ∧ h'.get nx.succ.succ = some (.cells [.b false, .ns] 0) ∧ K (.a [.b p, q]) (h'.set nx.succ.succ (.cells [.b p, q] 0)) nx' := by
    intro T c h' nx' hgr hz
    obtain ⟨w, out, rfl, g1, g2, g3⟩ := hz.dig
    refine ⟨_, w, rfl, g1.scal, scal_cells g1.scal, ?_, ?_⟩
    · rw [hgr.get _ (lt_s1 _), Tr.get_set_same]
    · refine hK _ _ _ ((hn3.trans hgr).set (Nat.le_of_lt (lt_s2 nx)) _) ⟨w, out, rfl, (g1.put (lt_s1 _) _).low (Nat.le_of_lt (lt_s3 nx)), g2, g3⟩
  cases hs : (a.neg == b.neg) with
  | true =>
    have hval : ZI.add a b = ZI.of a.neg (a.mag + b.mag) := by unfold ZI.add; rw [hs]; rfl
    simp only [go_sem, Nat.reduceEqDiff, reduceIte]
    refine plus_spec hP hD hE hg3 (by omega) (by omega) hcd.small hce.small (fun x out h' nx' hgr hX hso hlo hvo => ?_)
    have c1 := (hgr.cells (b := nx) (lt_s3 nx))
    simp only [go_sem] at c1
    simp only [go_sem, c1, Nat.reduceEqDiff, reduceIte]
    refine signed_num hS hT hX (Grow.refl h' nx') (by omega) hso a.neg (fun c h2 nx2 hgr2 hz => ?_)
    rw [hvo, hvd, hve, ← hval] at hz
    obtain ⟨p, q, rfl, hq1, hq2, hq3, hq4⟩ := fin .lf c h2 nx2 (hgr.trans hgr2) (hz.grow hgr2)
    simp only [go_sem, hq1, hq2, hq3, Nat.reduceEqDiff, reduceIte]
    exact hq4
  | false =>
    simp only [go_sem, Nat.reduceEqDiff, reduceIte]
    refine order_spec hR hD hE hg3 (by omega) hcd hce ?_
    by_cases hge : valD es ≤ valD ds
    · have hval : ZI.add a b = ZI.of a.neg (a.mag - b.mag) := by
        unfold ZI.add; rw [hs, show Nat.ble b.mag a.mag = true from by rw [Nat.ble_eq]; omega]; rfl
      have f1 : (!decide (ordN (valD ds) (valD es) < 0)) = true := by
        unfold ordN; rw [if_neg (by omega)]; split <;> rfl
      simp only [go_sem, f1, Nat.reduceEqDiff, reduceIte]
      have hlen : es.length ≤ ds.length := by
        apply Classical.byContradiction
        intro hn
        have := valD_len_lt hcd hce (by omega)
        omega
      refine minus_spec hM hD hE hg3 (by omega) hcd.small hce.small hlen hge (fun x out h' nx' hgr hX hso hlo hvo => ?_)
      have c1 := (hgr.cells (b := nx) (lt_s3 nx))
      simp only [go_sem] at c1
      simp only [go_sem, c1, Nat.reduceEqDiff, reduceIte]
      refine signed_num hS hT hX (Grow.refl h' nx') (by omega) hso a.neg (fun c h2 nx2 hgr2 hz => ?_)
      rw [hvo, hvd, hve, ← hval] at hz
      obtain ⟨p, q, rfl, hq1, hq2, hq3, hq4⟩ := fin .lf c h2 nx2 (hgr.trans hgr2) (hz.grow hgr2)
      simp only [go_sem, hq1, hq2, hq3, Nat.reduceEqDiff, reduceIte]
      exact hq4
    · have hval : ZI.add a b = ZI.of b.neg (b.mag - a.mag) := by
        unfold ZI.add
        rw [hs, show Nat.ble b.mag a.mag = false from by cases h : Nat.ble b.mag a.mag with | false => rfl | true => rw [Nat.ble_eq] at h; omega]; rfl
      have f1 : (!decide (ordN (valD ds) (valD es) < 0)) = false := by
        unfold ordN; rw [if_pos (by omega)]; rfl
      simp only [go_sem, f1, Nat.reduceEqDiff, reduceIte]
      have hlen : ds.length ≤ es.length := by
        apply Classical.byContradiction
        intro hn
        have := valD_len_lt hce hcd (by omega)
        omega
      refine minus_spec hM hE hD hg3 (by omega) hce.small hcd.small hlen (by omega) (fun x out h' nx' hgr hX hso hlo hvo => ?_)
      have c1 := (hgr.cells (b := nx.succ) (lt_s2 nx.succ))
      simp only [go_sem] at c1
      simp only [go_sem, c1, Nat.reduceEqDiff, reduceIte]
      refine signed_num hS hT hX (Grow.refl h' nx') (by omega) hso b.neg (fun c h2 nx2 hgr2 hz => ?_)
      rw [hvo, hvd, hve, ← hval] at hz
      obtain ⟨p, q, rfl, hq1, hq2, hq3, hq4⟩ := fin .lf c h2 nx2 (hgr.trans hgr2) (hz.grow hgr2)
      simp only [go_sem, hq1, hq2, hq3, Nat.reduceEqDiff, reduceIte]
      exact hq4
theorem box1 {h : Tr Blk} {nx : Pos} {l : List AV} {nx' : Pos} (h1 : nx.num ≤ nx'.num) : cellsAt (h.set nx (.cells l 0)) nx = some l := cells_same _ _ _
theorem Neg_spec (hO : Own C nYao FYao) {lo : Nat} {h0 : Tr Blk} {nx0 : Pos} {c : AV} {a : ZI} (hA : Zv lo h0 nx0 c a) (hg : Grow h0 nx0 h nx)
    (hK : ∀ c h' nx', Grow h nx h' nx' → Zv lo h0 nx0 c (ZI.neg' a) → K c h' nx') : Comes C (.f (pos nYao) []) [c] h nx K := by
  obtain ⟨v, ds, rfl, hD, hcd, hvd⟩ := hA.dig
  refine hO.comes (T := (Tr.lf.set (pos 0) (.a [.b a.neg, v]))) rfl ?_
  show wp C Yao0 _ _ _ _
  have e1 := fun h' nx' => hD.len h' nx'
  have e2 := hD.scal
  have e3 := scal_cells hD.scal
  have hg2 := ((hg.new (.cells [.b a.neg, v] 0)).new (.cells [.b false, .ns] 0))
  have fin : ∀ x, x = (ZI.neg' a).neg → K (.a [.b x, v]) ((h.set nx (.cells [.b a.neg, v] 0)).set nx.succ (.cells [.b x, v] 0)) nx.succ.succ := by
    rintro x rfl
    exact hK _ _ _ (((Grow.refl h nx).new _).new _) ⟨v, ds, rfl, hD, hcd, hvd⟩
  cases hn : a.neg with
  | true =>
    rw [hn] at fin
    simp only [FYao, go_sem, hn, Bool.not_true, e1, e2, e3, Nat.reduceEqDiff, reduceIte]
    exact fin false (by unfold ZI.neg' ZI.of; rw [hn]; rfl)
  | false =>
    rw [hn] at fin
    simp only [FYao, go_sem, hn, Bool.not_false, e1, e2, e3, Nat.reduceEqDiff, reduceIte]
    refine fin _ ?_
    unfold ZI.neg' ZI.of
    rw [hn, ← hvd]
    have := isEmpty_val hcd
    simp only [Bool.not_false, Bool.true_and]
    show _ = (true && !Nat.beq (valD ds) 0)
    rw [← this]
    cases ds <;> simp
theorem Abs_spec (hO : Own C nYat FYat) {lo : Nat} {h0 : Tr Blk} {nx0 : Pos} {c : AV} {a : ZI} (hA : Zv lo h0 nx0 c a) (hg : Grow h0 nx0 h nx)
    (hK : ∀ c h' nx', Grow h nx h' nx' → Zv lo h0 nx0 c (ZI.abs a) → K c h' nx') : Comes C (.f (pos nYat) []) [c] h nx K := by
  obtain ⟨v, ds, rfl, hD, hcd, hvd⟩ := hA.dig
  refine hO.comes (T := (Tr.lf.set (pos 0) (.a [.b a.neg, v]))) rfl ?_
  show wp C Yat0 _ _ _ _
  have e2 := hD.scal
  have e3 := scal_cells hD.scal
  simp only [FYat, go_sem, e2, e3, Nat.reduceEqDiff, reduceIte]
  exact hK _ _ _ (((Grow.refl h nx).new _).new _) ⟨v, ds, rfl, hD, hcd, hvd⟩
theorem Compare_spec (hO : Own C nYk FYk) (hR : Own C nYe FYe) {lo : Nat} {h0 : Tr Blk} {nx0 : Pos} {c d : AV} {a b : ZI} (hA : Zv lo h0 nx0 c a) (hB : Zv lo h0 nx0 d b) (hg : Grow h0 nx0 h nx) (hla : a.mag < LIM) (hlb : b.mag < LIM)
    (hK : ∀ h' nx', Grow h nx h' nx' → K (.i .i64 (ZI.cmp a b)) h' nx') : Comes C (.f (pos nYk) []) [c, d] h nx K := by
  obtain ⟨v, ds, rfl, hD, hcd, hvd⟩ := hA.dig
  obtain ⟨u, es, rfl, hE, hce, hve⟩ := hB.dig
  have hld := len_lim hcd (by rw [hvd]; exact hla)
  have hle := len_lim hce (by rw [hve]; exact hlb)
  refine hO.comes (T := ((Tr.lf.set (pos 0) (.a [.b a.neg, v])).set (pos 1) (.a [.b b.neg, u]))) rfl ?_
  show wp C Yk0 _ _ _ _
  have hg2 := ((hg.new (.cells [.b a.neg, v] 0)).new (.cells [.b b.neg, u] 0))
  have hK := hK _ _ (((Grow.refl h nx).new (.cells [.b a.neg, v] 0)).new (.cells [.b b.neg, u] 0))
  unfold ZI.cmp at hK
  cases hs : (a.neg == b.neg) with
  | true =>
    rw [hs, cond_true] at hK
    cases hn : a.neg with
    | true =>
      rw [hn] at hg2 hK hs
      simp only [FYk, go_sem, hn, hs, Bool.not_true, Nat.reduceEqDiff, reduceIte]
      refine order_spec hR hE hD hg2 (by omega) hce hcd ?_
      try simp only [go_sem, Nat.reduceEqDiff, reduceIte]
      rw [hvd, hve, ← ordB_eq]; exact hK
    | false =>
      rw [hn] at hg2 hK hs
      simp only [FYk, go_sem, hn, hs, Bool.not_true, Nat.reduceEqDiff, reduceIte]
      refine order_spec hR hD hE hg2 (by omega) hcd hce ?_
      try simp only [go_sem, Nat.reduceEqDiff, reduceIte]
      rw [hvd, hve, ← ordB_eq]; exact hK
  | false =>
    rw [hs, cond_false] at hK
    cases hn : a.neg with
    | true =>
      rw [hn] at hK hs
      simp only [FYk, go_sem, hn, hs, Bool.not_false, Nat.reduceEqDiff, reduceIte]
      exact hK
    | false =>
      rw [hn] at hK hs
      simp only [FYk, go_sem, hn, hs, Bool.not_false, Nat.reduceEqDiff, reduceIte]
      exact hK
end
end
noncomputable section
theorem row_get {os : List Nat} {j : Nat} (hj : j < os.length) : hd (dropN (j * 1) (os.map dg)) = some (.i .u32 (os[j] : Int)) := by
  rw [Nat.mul_one, dropN_eq, List.drop_eq_getElem_cons (by simpa using hj), hd_cons]
  simp [dg]
theorem row_set {os : List Nat} {j d : Nat} (hj : j < os.length) : spl (j * 1) [.i .u32 (d : Int)] (os.map dg) = some ((os.set j d).map dg) := by
  rw [Nat.mul_one, spl_ok _ _ _ (by simp; omega)]
  congr 1
  rw [List.map_set, List.set_eq_take_append_cons_drop, if_pos (by simpa using hj)]
  simp [dg]
theorem valD_set {os : List Nat} {j d : Nat} (hj : j < os.length) : valD (os.set j d) + BB ^ j * os[j] = valD os + BB ^ j * d := by
  have e : ∀ (l : List Nat) (h : j < l.length), valD l = valD (l.take j) + BB ^ j * (l[j] + BB * valD (l.drop (j + 1))) := by
    intro l h
    conv => lhs; rw [← List.take_append_drop j l, List.drop_eq_getElem_cons h, valD_append, valD_cons]
    rw [List.length_take, Nat.min_eq_left (Nat.le_of_lt h)]
  rw [e os hj, e (os.set j d) (by simpa using hj), List.take_set_of_le (Nat.le_refl j), List.drop_set_of_lt (by omega), List.getElem_set_self, Nat.mul_add, Nat.mul_add]
  omega
theorem Small.set {os : List Nat} (h : Small os) (j : Nat) {d : Nat} (hd : d < BB) : Small (os.set j d) := fun x hx => by
  rcases List.mem_or_eq_of_mem_set hx with h1 | h1
  · exact h x h1
  · rw [h1]; exact hd
theorem u64_mul {x y : Nat} (hx : x < BB) (hy : y < BB) : x * y + (BB - 1) + (BB - 1) < BB * BB := by
  have h1 : x * y ≤ (BB - 1) * (BB - 1) := Nat.mul_le_mul (by omega) (by omega)
  have h2 : (BB - 1) * (BB - 1) + (BB - 1) + (BB - 1) < BB * BB := by decide
  omega
section
variable {C : Ctx} {h : Tr Blk} {nx : Pos} {K : AV → Tr Blk → Pos → Prop}
theorem mul_inner (Q : Post) {lo : Nat} {h0 : Tr Blk} {nx0 : Pos} {u : AV} {es : List Nat} (hE : Dg lo h0 nx0 u es) (hg : Grow h0 nx0 h nx) {b0 : Pos} (hb0 : nx0.num ≤ b0.num) (hes : Small es) {i x N : Nat} (hx : x < BB) (hN : i + es.length ≤ N) (hNb : N < 16777216)
    (T : Tr AV) (os0 : List Nat) (hl0 : os0.length = N) (hs0 : Small os0) {a2 a3 a4 a20 a21 a22 : AV}
    (h2 : T.get (pos 2) = some a2) (h3 : T.get (pos 3) = some a3) (h4 : T.get (pos 4) = some a4) (h5 : T.get (pos 5) = some (.sl b0 0 N N)) (h6 : T.get (pos 6) = some (.i .i64 (i : Int))) (h7 : T.get (pos 7) = some (.i .u32 (x : Int)))
    (h8 : T.get (pos 8) = some (.i .u64 0)) (h20 : T.get (pos 20) = some a20) (h21 : T.get (pos 21) = some a21) (h22 : T.get (pos 22) = some a22) (h28 : T.get (pos 28) = some u) (h29 : T.get (pos 29) = some (.i .i64 (es.length : Int))) (h30 : T.get (pos 30) = some (.i .i64 0))
    (hQ : ∀ T os c, os.length = N → Small os → c < BB → valD os + BB ^ (i + es.length) * c = valD os0 + BB ^ i * (x * valD es) → (∀ j (hj : j < os.length) (hj' : j < os0.length), i + es.length ≤ j → os[j] = os0[j]) →
      T.get (pos 2) = some a2 → T.get (pos 3) = some a3 → T.get (pos 4) = some a4 → T.get (pos 5) = some (.sl b0 0 N N) → T.get (pos 6) = some (.i .i64 (i : Int)) → T.get (pos 8) = some (.i .u64 (c : Int)) → T.get (pos 20) = some a20 → T.get (pos 21) = some a21 → T.get (pos 22) = some a22 →
      Q (.x 2) T (h.set b0 (.cells (os.map dg) 0)) nx) :
    wp C Yd32 Q T (h.set b0 (.cells (os0.map dg) 0)) nx := by
  refine wp_loop (fun m T h' nx' => ∃ k os c, m + k = es.length ∧ h' = h.set b0 (.cells (os.map dg) 0) ∧ nx' = nx ∧ os.length = N ∧ Small os ∧ c < BB ∧ valD os + BB ^ (i + k) * c = valD os0 + BB ^ i * (x * valD (es.take k)) ∧ (∀ j (hj : j < os.length) (hj' : j < os0.length), i + k ≤ j → os[j] = os0[j]) ∧
    T.get (pos 2) = some a2 ∧ T.get (pos 3) = some a3 ∧ T.get (pos 4) = some a4 ∧ T.get (pos 5) = some (.sl b0 0 N N) ∧ T.get (pos 6) = some (.i .i64 (i : Int)) ∧ T.get (pos 7) = some (.i .u32 (x : Int)) ∧ T.get (pos 8) = some (.i .u64 (c : Int)) ∧ T.get (pos 20) = some a20 ∧ T.get (pos 21) = some a21 ∧ T.get (pos 22) = some a22 ∧
    T.get (pos 28) = some u ∧ T.get (pos 29) = some (.i .i64 (es.length : Int)) ∧ T.get (pos 30) = some (.i .i64 (k : Int)))
    es.length ⟨0, os0, 0, rfl, rfl, rfl, hl0, hs0, BB_pos, by simp [valD_nil], fun j _ _ _ => rfl, h2, h3, h4, h5, h6, h7, h8, h20, h21, h22, h28, h29, h30⟩ ?_
  rintro m T h' nx' ⟨k, os, c, hmk, rfl, rfl, hol, hos, hc, hval, hsame, h2, h3, h4, h5, h6, h7, h8, h20, h21, h22, h28, h29, h30⟩
  cases m with
  | zero =>
    have hk : k = es.length := by omega
    subst hk
    have f1 : decide ((es.length : Int) < (es.length : Int)) = false := by simp
    simp only [go_sem, h30, h29, f1, Nat.reduceEqDiff, reduceIte]
    refine hQ _ os c hol hos hc (by rw [List.take_length] at hval; exact hval) hsame ?_ ?_ ?_ ?_ ?_ ?_ ?_ ?_ ?_ <;> simp only [go_sem, *, Nat.reduceEqDiff, reduceIte]
  | succ m =>
    have hlt : k < es.length := by omega
    have hik : i + k < os.length := by omega
    have f1 : decide ((k : Int) < (es.length : Int)) = true := by simp; omega
    have g : ∀ b : Pos, b.num < nx0.num → (h.set b0 (.cells (os.map dg) 0)).get b = h0.get b := fun b hb => by rw [Tr.get_set_other _ _ (fun e => by subst e; omega), hg.get b hb]
    have a1 := hE.addr hlt .i64 (h.set b0 (.cells (os.map dg) 0)) nx'
    have a2' := hE.load hlt g nx'
    have hek := hes.get hlt
    have hok := hos.get hik
    have hbig := u64_mul hx hek
    have ht : x * es[k] + os[i + k] + c < BB * BB := by omega
    have hBB : BB * BB = 18446744073709551616 := rfl
    have f2 : IntKind.u64.wrap ((x : Nat) : Int) = (x : Int) := wrap_u64n (by unfold BB at hx; omega)
    have f3 : IntKind.u64.wrap ((es[k] : Nat) : Int) = (es[k] : Int) := wrap_u64n (by unfold BB at hek; omega)
    have f4 : IntKind.u64.wrap ((x : Int) * (es[k] : Int)) = ((x * es[k] : Nat) : Int) := by rw [← Int.natCast_mul]; exact wrap_u64n (by omega)
    have f5 : IntKind.i64.wrap ((i : Int) + (k : Int)) = ((i + k : Nat) : Int) := by rw [← Int.natCast_add]; exact wrap_i64n (by omega)
    have f6 : IntKind.u64.wrap ((os[i + k] : Nat) : Int) = (os[i + k] : Int) := wrap_u64n (by unfold BB at hok; omega)
    have f7 : IntKind.u64.wrap (((x * es[k] : Nat) : Int) + (os[i + k] : Int)) = ((x * es[k] + os[i + k] : Nat) : Int) := by rw [← Int.natCast_add]; exact wrap_u64n (by omega)
    have f8 : IntKind.u64.wrap ((c : Int) + ((x * es[k] + os[i + k] : Nat) : Int)) = ((c + (x * es[k] + os[i + k]) : Nat) : Int) := by rw [← Int.natCast_add]; exact wrap_u64n (by omega)
    have f9 := addr_sl (b := b0) (o := 0) (c := N) (s := 1) (show i + k < N by omega) .i64 (h.set b0 (.cells (os.map dg) 0)) nx'
    have f10 := row_get hik
    have f11 := wrap_u32 (c + (x * es[k] + os[i + k]))
    have f12 := row_set (d := (c + (x * es[k] + os[i + k])) % BB) hik
    have f13 : IntKind.i64.wrap ((k : Int) + 1) = ((k + 1 : Nat) : Int) := by rw [wrap_i64] <;> omega
    simp only [go_sem, h2, h3, h4, h5, h6, h7, h8, h20, h21, h22, h28, h29, h30, f1, a1, a2', f2, f3, f4, f5, f6, f7, f8, f9, f10, f11, f12, f13, b_shr32, Nat.reduceEqDiff, reduceIte]
    refine ⟨m, Nat.lt_succ_self m, k + 1, os.set (i + k) ((c + (x * es[k] + os[i + k])) % BB), _, by omega, by first | trivial | rfl, by first | trivial | rfl, by simpa using hol, hos.set _ (Nat.mod_lt _ BB_pos), Nat.div_lt_of_lt_mul (show c + (x * es[k] + os[i + k]) < BB * BB by omega), ?_, ?_, ?_, ?_, ?_, ?_, ?_, ?_, ?_, ?_, ?_, ?_, ?_, ?_, ?_⟩
    · have h1 := valD_set (d := (c + (x * es[k] + os[i + k])) % BB) hik
      have h2 := Nat.div_add_mod (c + (x * es[k] + os[i + k])) BB
      rw [List.take_succ_eq_append_getElem hlt, valD_snoc, List.length_take, Nat.min_eq_left (Nat.le_of_lt hlt), ← Nat.add_assoc i k 1, Nat.pow_succ]
      have h3 : BB ^ (i + k) * ((c + (x * es[k] + os[i + k])) % BB) + BB ^ (i + k) * BB * ((c + (x * es[k] + os[i + k])) / BB) = BB ^ (i + k) * (c + (x * es[k] + os[i + k])) := by
        rw [Nat.mul_assoc, ← Nat.mul_add]; congr 1; omega
      have h4 : BB ^ i * (x * (valD (es.take k) + BB ^ k * es[k])) = BB ^ i * (x * valD (es.take k)) + BB ^ (i + k) * (x * es[k]) := by
        rw [Nat.mul_add x, Nat.mul_add, Nat.pow_add]
        congr 1
        rw [Nat.mul_assoc]
        congr 1
        rw [← Nat.mul_assoc, ← Nat.mul_assoc, Nat.mul_comm x (BB ^ k)]
      rw [h4, Nat.mul_add, Nat.mul_add] at *
      omega
    · intro j hj hj' hij
      rw [List.getElem_set_ne (by omega)]
      exact hsame j (by simpa using hj) hj' (by omega)
    all_goals first | assumption | trivial | rfl
theorem Mul_spec (hO : Own C nYd FYd) (hT : Own C nYw FYw) (hS : Own C nYac FYac) {lo : Nat} {h0 : Tr Blk} {nx0 : Pos} {c d : AV} {a b : ZI} (hA : Zv lo h0 nx0 c a) (hB : Zv lo h0 nx0 d b) (hg : Grow h0 nx0 h nx) (hla : a.mag < LIM) (hlb : b.mag < LIM)
    (hK : ∀ c h' nx', Grow h nx h' nx' → Zv nx.num h' nx' c (ZI.mul a b) → K c h' nx') : Comes C (.f (pos nYd) []) [c, d] h nx K := by
  obtain ⟨v, ds, rfl, hD, hcd, hvd⟩ := hA.dig
  obtain ⟨u, es, rfl, hE, hce, hve⟩ := hB.dig
  have hld := len_lim hcd (by rw [hvd]; exact hla)
  have hle := len_lim hce (by rw [hve]; exact hlb)
  clear hla hlb
  refine hO.comes (T := ((Tr.lf.set (pos 0) (.a [.b a.neg, v])).set (pos 1) (.a [.b b.neg, u]))) rfl ?_
  show wp C Yd0 _ _ _ _
  have e1 := fun h' nx' => hD.len h' nx'
  have e2 := fun h' nx' => hE.len h' nx'
  have e3 : IntKind.i64.wrap ((ds.length : Int) + (es.length : Int)) = ((ds.length + es.length : Nat) : Int) := by rw [← Int.natCast_add]; exact wrap_i64n (by omega)
  have e4 := fun h' nx' => mkslice_ok (h := h') (nx := nx') [.i .u32 0] .i64 .i64 (Nat.le_refl (ds.length + es.length)) (by omega)
  simp only [rep_one] at e4
  simp only [FYd, go_sem, e1, e2, e3, e4, Nat.reduceEqDiff, reduceIte]
  have hg3 := ((hg.new (.cells [.b a.neg, v] 0)).new (.cells [.b b.neg, u] 0)).new (.cells [.b false, .ns] 0)
  have hn3 := (((Grow.refl h nx).new (.cells [.b a.neg, v] 0)).new (.cells [.b b.neg, u] 0)).new (.cells [.b false, .ns] 0)
  generalize hH : ((h.set nx (.cells [.b a.neg, v] 0)).set nx.succ (.cells [.b b.neg, u] 0)).set nx.succ.succ (.cells [.b false, .ns] 0) = H at *
  have hz : ∀ (os : List Nat) (hnx : Pos), True := fun _ _ => trivial
  have b1 : ∀ B, cellsAt (H.set nx.succ.succ.succ B) nx.succ = some [.b b.neg, u] := fun B => by rw [← hH]; simp only [go_sem]
  have b0 : ∀ B, cellsAt (H.set nx.succ.succ.succ B) nx = some [.b a.neg, v] := fun B => by rw [← hH]; simp only [go_sem]
  have g0 : ∀ B, Grow H nx.succ.succ.succ (H.set nx.succ.succ.succ B) nx.succ.succ.succ.succ := fun B => (Grow.refl H _).new B
  refine wp_loop (fun m T h' nx' => ∃ i os, m + i = ds.length ∧ h' = H.set nx.succ.succ.succ (.cells (os.map dg) 0) ∧ nx' = nx.succ.succ.succ.succ ∧ os.length = ds.length + es.length ∧ Small os ∧ valD os = valD (ds.take i) * valD es ∧ (∀ j (hj : j < os.length), i + es.length ≤ j → os[j] = 0) ∧
    T.get (pos 2) = some (.p nx 0) ∧ T.get (pos 3) = some (.p nx.succ 0) ∧ T.get (pos 4) = some (.p nx.succ.succ 0) ∧ T.get (pos 5) = some (.sl nx.succ.succ.succ 0 (ds.length + es.length) (ds.length + es.length)) ∧ T.get (pos 20) = some v ∧ T.get (pos 21) = some (.i .i64 (ds.length : Int)) ∧ T.get (pos 22) = some (.i .i64 (i : Int)))
    ds.length ⟨0, List.replicate (ds.length + es.length) 0, rfl, ?_, rfl, by simp, ?_, ?_, fun j hj _ => by simp, ?_, ?_, ?_, ?_, ?_, ?_, ?_⟩ ?_
  · congr 1; simp [dg]
  · intro x hx; rw [(List.mem_replicate.1 hx).2]; exact BB_pos
  · have : ∀ n, valD (List.replicate n 0) = 0 := by
      intro n
      induction n with
      | zero => rfl
      | succ n ih => rw [List.replicate_succ, valD_cons, ih, Nat.mul_zero]
    rw [this]; simp [valD_nil]
  iterate 7 · simp only [go_sem, Nat.reduceEqDiff, reduceIte]; try rfl
  rintro m T h' nx' ⟨i, os, hmi, rfl, rfl, hol, hos, hval, hzero, h2, h3, h4, h5, h20, h21, h22⟩
  cases m with
  | zero =>
    have hi : i = ds.length := by omega
    subst hi
    have f1 : decide ((ds.length : Int) < (ds.length : Int)) = false := by simp
    simp only [go_sem, h2, h3, h4, h5, h20, h21, h22, f1, b0, b1, Nat.reduceEqDiff, reduceIte]
    have hX : Dg nx.succ.succ.succ.num (H.set nx.succ.succ.succ (.cells (os.map dg) 0)) nx.succ.succ.succ.succ (.sl nx.succ.succ.succ 0 (ds.length + es.length) (ds.length + es.length)) os := by
      have : Dg nx.succ.succ.succ.num (H.set nx.succ.succ.succ (.cells (os.map dg) 0)) nx.succ.succ.succ.succ (.sl nx.succ.succ.succ 0 os.length (ds.length + es.length)) os :=
        .sl _ 0 _ _ 0 _ _ (Tr.get_set_same _ _ _) (by simp) ⟨[], [], by simp, rfl⟩ (by omega) (succ_num _) (.inl rfl) (Nat.le_refl _)
      rw [hol] at this; exact this
    refine signed_num hS hT hX (Grow.refl _ _) (by omega) hos _ (fun c h2' nx2 hgr2 hz2 => ?_)
    have hzz : ZI.of (!(a.neg == b.neg)) (valD os) = ZI.mul a b := by rw [hval, List.take_length, hvd, hve]; rfl
    rw [hzz] at hz2
    obtain ⟨w, out, rfl, k1, k2, k3⟩ := (hz2.grow hgr2).dig
    have q1 := k1.scal
    have q2 := scal_cells k1.scal
    have q3 : h2'.get nx.succ.succ = some (.cells [.b false, .ns] 0) := by
      rw [hgr2.get _ (lt_s2 _)]
      rw [get_s1, ← hH, Tr.get_set_same]
    simp only [go_sem, h4, q1, q2, q3, Nat.reduceEqDiff, reduceIte]
    refine hK _ _ _ (((hn3.trans (g0 _)).trans hgr2).set (Nat.le_of_lt (lt_s2 nx)) _) ⟨w, out, rfl, (k1.put (lt_s1 _) _).low (Nat.le_of_lt (lt_s3 nx)), k2, k3⟩
  | succ m =>
    have hlt : i < ds.length := by omega
    have f1 : decide ((i : Int) < (ds.length : Int)) = true := by simp; omega
    have gg := hg3.trans (g0 (.cells (os.map dg) 0))
    have a1 := hD.addr hlt .i64 (H.set nx.succ.succ.succ (.cells (os.map dg) 0)) nx.succ.succ.succ.succ
    have a2 := hD.load hlt gg.get nx.succ.succ.succ.succ
    have hdi := hcd.small.get hlt
    simp only [go_sem, h2, h3, h4, h5, h20, h21, h22, f1, a1, a2, b0, b1, e2, Nat.reduceEqDiff, reduceIte]
    have hg4 : Grow h0 nx0 H nx.succ.succ.succ.succ := ⟨Nat.le_trans hg3.le (Nat.le_of_lt (succ_num _)), hg3.get⟩
    refine mul_inner _ hE hg4 hg3.le hce.small (i := i) hdi (by omega) (by omega) _ os hol hos (a2 := .p nx 0) (a3 := .p nx.succ 0) (a4 := .p nx.succ.succ 0) (a20 := v) (a21 := .i .i64 (ds.length : Int)) (a22 := .i .i64 (i : Int)) ?_ ?_ ?_ ?_ ?_ ?_ ?_ ?_ ?_ ?_ ?_ ?_ ?_ ?_
    iterate 13 · simp only [go_sem, h2, h3, h4, h5, h20, h21, h22, Nat.reduceEqDiff, reduceIte]; try rfl
    intro T os2 c hol2 hos2 hc hval2 hsame h2 h3 h4 h5 h6 h8 h20 h21 h22
    have him : i + es.length < os2.length := by omega
    have f2 : IntKind.i64.wrap ((i : Int) + (es.length : Int)) = ((i + es.length : Nat) : Int) := by rw [← Int.natCast_add]; exact wrap_i64n (by omega)
    have f3 : IntKind.u32.wrap (c : Int) = (c : Int) := by rw [wrap_u32, Nat.mod_eq_of_lt hc]
    have f4 := addr_sl (b := nx.succ.succ.succ) (o := 0) (c := ds.length + es.length) (s := 1) (show i + es.length < ds.length + es.length by omega) .i64 (H.set nx.succ.succ.succ (.cells (os2.map dg) 0)) nx.succ.succ.succ.succ
    have f5 := row_set (d := c) him
    have f6 : IntKind.i64.wrap ((i : Int) + 1) = ((i + 1 : Nat) : Int) := by rw [wrap_i64] <;> omega
    simp only [go_sem, h2, h3, h4, h5, h6, h8, h20, h21, h22, b1, e2, f2, f3, f4, f5, f6, Nat.reduceEqDiff, reduceIte]
    refine ⟨m, Nat.lt_succ_self m, i + 1, os2.set (i + es.length) c, by omega, by first | trivial | rfl, by first | trivial | rfl, by simpa using hol2, hos2.set _ hc, ?_, ?_, ?_, ?_, ?_, ?_, ?_, ?_, ?_⟩
    · have g1 := valD_set (d := c) him
      have g2 : os2[i + es.length] = 0 := by rw [hsame _ him (by omega) (Nat.le_refl _)]; exact hzero _ _ (Nat.le_refl _)
      rw [g2, Nat.mul_zero, Nat.add_zero] at g1
      rw [g1, hval2, hval, List.take_succ_eq_append_getElem hlt, valD_snoc, List.length_take, Nat.min_eq_left (Nat.le_of_lt hlt), Nat.add_mul, Nat.mul_assoc]
    · intro j hj hij
      rw [List.getElem_set_ne (by omega), hsame j (by simpa using hj) (by simp at hj; omega) (by omega)]
      exact hzero _ _ (by omega)
    all_goals first | assumption | trivial | rfl
end
end
noncomputable section
theorem b_shl32 (m : Nat) (e : EK) {n : Nat} (hn : n < BB) (j : IntKind) : binV .shl m e (.i .u64 (n : Int)) (.i j 32) = some (.i .u64 ((n * BB : Nat) : Int)) := by
  have h1 : ∀ q : Bool, (bif q then binI .shl .u64 (n : Int) 32 else bif shiftOp .shl then binI .shl .u64 (n : Int) 32 else none) = binI .shl .u64 (n : Int) 32 := by intro q; cases q <;> rfl
  show (bif keq .u64 j then binI .shl .u64 (n : Int) 32 else bif shiftOp .shl then binI .shl .u64 (n : Int) 32 else none) = _
  rw [h1]
  show some (AV.i .u64 (IntKind.u64.wrap ((n : Int) * 2 ^ 32))) = _
  have : (n : Int) * 2 ^ 32 = ((n * BB : Nat) : Int) := by rw [Int.natCast_mul]; rfl
  rw [this, wrap_u64n (by unfold BB at *; omega)]
theorem b_or32 (m : Nat) (e : EK) {n d : Nat} (hn : n < BB) (hd : d < BB) : binV .or m e (.i .u64 ((n * BB : Nat) : Int)) (.i .u64 (d : Int)) = some (.i .u64 ((n * BB + d : Nat) : Int)) := by
  have h1 : n * BB + d < 18446744073709551616 := by unfold BB at *; omega
  have h2 : (n * BB) ||| d = n * BB + d := by
    have := Nat.shiftLeft_add_eq_or_of_lt (i := 32) (b := d) (by unfold BB at hd; exact hd) n
    rw [Nat.shiftLeft_eq] at this
    exact this.symm
  have h3 : (BitVec.ofInt 64 ((n * BB : Nat) : Int) ||| BitVec.ofInt 64 (d : Int)).toNat = n * BB + d := by
    rw [BitVec.ofInt_natCast, BitVec.ofInt_natCast, BitVec.toNat_or, BitVec.toNat_ofNat, BitVec.toNat_ofNat, Nat.mod_eq_of_lt (by omega), Nat.mod_eq_of_lt (by omega), h2]
  have h4 : binI .or .u64 ((n * BB : Nat) : Int) (d : Int) = some (.i .u64 ((n * BB + d : Nat) : Int)) := by
    show some (AV.i .u64 (IntKind.u64.wrap (((BitVec.ofInt 64 ((n * BB : Nat) : Int) ||| BitVec.ofInt 64 (d : Int)).toNat : Nat) : Int))) = _
    rw [h3, wrap_u64n h1]
  exact h4
theorem b_quoN (m : Nat) (e : EK) {n d : Nat} (hn : n < 18446744073709551616) (hd : d ≠ 0) : binV .quo m e (.i .u64 (n : Int)) (.i .u64 (d : Int)) = some (.i .u64 ((n / d : Nat) : Int)) := by
  rw [b_quo _ _ _ _ _ (by omega), Int.tdiv_eq_ediv_of_nonneg (by omega), ← Int.natCast_ediv, wrap_u64n (Nat.lt_of_le_of_lt (Nat.div_le_self _ _) hn)]
theorem b_remN (m : Nat) (e : EK) {n d : Nat} (hd : d ≠ 0) : binV .rem m e (.i .u64 (n : Int)) (.i .u64 (d : Int)) = some (.i .u64 ((n % d : Nat) : Int)) := by
  rw [b_rem _ _ _ _ _ (by omega), Int.tmod_eq_emod_of_nonneg (by omega), ← Int.natCast_emod]
section
variable {C : Ctx} {h : Tr Blk} {nx : Pos} {K : AV → Tr Blk → Pos → Prop}
theorem short_spec (hO : Own C nYl FYl) (hT : Own C nYw FYw) {lo : Nat} {h0 : Tr Blk} {nx0 : Pos} {v : AV} {ds : List Nat} (hD : Dg lo h0 nx0 v ds) (hg : Grow h0 nx0 h nx) (hb : ds.length < 16777216) (hds : Small ds) {q : Nat} (hq : q < BB) (hq0 : q ≠ 0)
    (hK : ∀ x out h' nx', Grow h nx h' nx' → Dg nx.num h' nx' x out → Can out → out.length ≤ ds.length → valD out = valD ds / q → K (.t [x, .i .u32 ((valD ds % q : Nat) : Int)]) h' nx') :
    Comes C (.f (pos nYl) []) [v, .i .u32 (q : Int)] h nx K := by
  refine hO.comes (T := ((Tr.lf.set (pos 0) v).set (pos 1) (.i .u32 (q : Int)))) rfl ?_
  show wp C Yl0 _ _ _ _
  have e1 := fun h' nx' => hD.len h' nx'
  have e4 := mkslice_ok (h := h) (nx := nx) [.i .u32 0] .i64 .i64 (Nat.le_refl ds.length) (by omega)
  rw [rep_one] at e4
  have e5 : IntKind.i64.wrap ((ds.length : Int) - 1) = (ds.length : Int) - 1 := by rw [wrap_i64] <;> omega
  simp only [FYl, go_sem, e1, e4, e5, Nat.reduceEqDiff, reduceIte]
  have hgn : ∀ B, Grow h0 nx0 (h.set nx B) nx.succ := fun B => hg.new B
  refine wp_loop (fun m T h' nx' => ∃ r os, m ≤ ds.length ∧ h' = h.set nx (.cells (os.map dg) 0) ∧ nx' = nx.succ ∧ os.length = ds.length ∧ Small os ∧ r < q ∧ valD (ds.drop m) = q * valD (os.drop m) + r ∧
    T.get (pos 0) = some v ∧ T.get (pos 1) = some (.i .u32 (q : Int)) ∧ T.get (pos 6) = some (.sl nx 0 ds.length ds.length) ∧ T.get (pos 7) = some (.i .u64 (r : Int)) ∧ T.get (pos 8) = some (.i .i64 ((m : Int) - 1)))
    ds.length ⟨0, List.replicate ds.length 0, Nat.le_refl _, ?_, rfl, by simp, ?_, by omega, by simp [valD_nil], ?_, ?_, ?_, ?_, ?_⟩ ?_
  · congr 1; simp [dg]
  · intro x hx; rw [(List.mem_replicate.1 hx).2]; exact BB_pos
  iterate 5 · simp only [go_sem, Nat.reduceEqDiff, reduceIte]; try rfl
  rintro m T h' nx' ⟨r, os, hm, rfl, rfl, hol, hos, hr, hval, h0', h1, h6, h7, h8⟩
  cases m with
  | zero =>
    have f1 : (!decide (((0 : Nat) : Int) - 1 < 0)) = false := by simp
    simp only [go_sem, h0', h1, h6, h7, h8, f1, Nat.reduceEqDiff, reduceIte]
    have hX : Dg nx.num (h.set nx (.cells (os.map dg) 0)) nx.succ (.sl nx 0 ds.length ds.length) os := by
      have : Dg nx.num (h.set nx (.cells (os.map dg) 0)) nx.succ (.sl nx 0 os.length ds.length) os :=
        .sl _ 0 _ _ 0 _ _ (Tr.get_set_same _ _ _) (by simp) ⟨[], [], by simp, rfl⟩ (by omega) (succ_num _) (.inl rfl) (Nat.le_refl _)
      rw [hol] at this; exact this
    simp only [List.drop_zero] at hval
    have hdiv : valD ds / q = valD os := by rw [hval, Nat.mul_add_div (by omega), Nat.div_eq_of_lt hr, Nat.add_zero]
    have hmod : valD ds % q = r := by rw [hval, Nat.mul_add_mod, Nat.mod_eq_of_lt hr]
    refine trim_spec hT hX (Grow.refl _ _) (by omega) (fun x hx => ?_)
    have f2 : IntKind.u32.wrap (r : Int) = (r : Int) := by rw [wrap_u32, Nat.mod_eq_of_lt (by omega)]
    simp only [go_sem, h0', h1, h6, h7, h8, f2, Nat.reduceEqDiff, reduceIte]
    obtain ⟨k1, k2, k3⟩ := trimD_can hos
    rw [← hmod]
    exact hK x (trimD os) _ _ ((Grow.refl h nx).new _) hx k1 (by omega) (by rw [k2, hdiv])
  | succ m =>
    have hlt : m < ds.length := hm
    have hlt' : m < os.length := by omega
    have e6 : (((m + 1 : Nat) : Int) - 1) = (m : Int) := by omega
    rw [e6] at h8
    have f1 : (!decide ((m : Int) < 0)) = true := by simp
    have g : ∀ b : Pos, b.num < nx0.num → (h.set nx (.cells (os.map dg) 0)).get b = h0.get b := (hgn _).get
    have a1 := hD.addr hlt .i64 (h.set nx (.cells (os.map dg) 0)) nx.succ
    have a2 := hD.load hlt g nx.succ
    have hdm := hds.get hlt
    have hrB : r < BB := by omega
    have f2 := fun mm ee j => b_shl32 mm ee hrB j
    have f3 : IntKind.u64.wrap ((ds[m] : Nat) : Int) = (ds[m] : Int) := wrap_u64n (by unfold BB at hdm; omega)
    have f4 := fun mm ee => b_or32 mm ee hrB hdm
    have f5 : IntKind.u64.wrap (q : Int) = (q : Int) := wrap_u64n (by unfold BB at hq; omega)
    have hbig : r * BB + ds[m] < 18446744073709551616 := by unfold BB at *; omega
    have f6 := fun mm ee => b_quoN mm ee hbig hq0
    have f7 := fun mm ee => b_remN mm ee (n := r * BB + ds[m]) hq0
    have hqd : (r * BB + ds[m]) / q < BB := by
      apply Nat.div_lt_of_lt_mul
      have : r * BB + BB ≤ q * BB := by rw [← Nat.succ_mul]; exact Nat.mul_le_mul_right _ hr
      omega
    have f8 : IntKind.u32.wrap (((r * BB + ds[m]) / q : Nat) : Int) = (((r * BB + ds[m]) / q : Nat) : Int) := by rw [wrap_u32, Nat.mod_eq_of_lt hqd]
    have f9 := addr_sl (b := nx) (o := 0) (c := ds.length) (s := 1) hlt .i64 (h.set nx (.cells (os.map dg) 0)) nx.succ
    have f10 := row_set (d := (r * BB + ds[m]) / q) hlt'
    have f11 : IntKind.i64.wrap ((m : Int) - 1) = (m : Int) - 1 := by rw [wrap_i64] <;> omega
    simp only [go_sem, h0', h1, h6, h7, h8, f1, a1, a2, f2, f3, f4, f5, f6, f7, f8, f9, f10, f11, Nat.reduceEqDiff, reduceIte]
    refine ⟨m, Nat.lt_succ_self m, (r * BB + ds[m]) % q, os.set m ((r * BB + ds[m]) / q), by omega, by first | trivial | rfl, by first | trivial | rfl, by simpa using hol, hos.set _ hqd, Nat.mod_lt _ (by omega), ?_, ?_, ?_, ?_, ?_, ?_⟩
    · rw [List.drop_eq_getElem_cons hlt, valD_cons, hval, List.drop_eq_getElem_cons (l := os.set m _) (by simpa using hlt'), valD_cons, List.getElem_set_self, List.drop_set_of_lt (by omega), Nat.mul_add q]
      have := Nat.div_add_mod (r * BB + ds[m]) q
      rw [Nat.mul_add, ← Nat.mul_assoc BB q, ← Nat.mul_assoc q BB, Nat.mul_comm BB q, Nat.mul_comm BB r]
      omega
    all_goals first | assumption | trivial | rfl
theorem Sign_spec (hO : Own C nYu FYu) {lo : Nat} {h0 : Tr Blk} {nx0 : Pos} {c : AV} {a : ZI} (hA : Zv lo h0 nx0 c a) (hg : Grow h0 nx0 h nx)
    (hK : ∀ h' nx', Grow h nx h' nx' → K (.i .i64 (ZI.sign a)) h' nx') : Comes C (.f (pos nYu) []) [c] h nx K := by
  obtain ⟨v, ds, rfl, hD, hcd, hvd⟩ := hA.dig
  refine hO.comes (T := (Tr.lf.set (pos 0) (.a [.b a.neg, v]))) rfl ?_
  show wp C Yu0 _ _ _ _
  have e1 := fun h' nx' => hD.len h' nx'
  have hK := hK _ _ ((Grow.refl h nx).new (.cells [.b a.neg, v] 0))
  have he := isEmpty_val hcd
  unfold ZI.sign at hK
  cases ds with
  | nil =>
    have h0 : a.mag = 0 := by rw [← hvd]; rfl
    rw [h0] at hK
    have f1 : decide ((([] : List Nat).length : Int) = 0) = true := rfl
    simp only [FYu, go_sem, e1, f1, Nat.reduceEqDiff, reduceIte]
    exact hK
  | cons d ds =>
    have f1 : decide (((d :: ds).length : Int) = 0) = false := by simp; omega
    have h0 : Nat.beq a.mag 0 = false := by rw [hvd] at he; cases hb : Nat.beq a.mag 0 with | false => rfl | true => rw [hb] at he; cases he
    rw [h0, cond_false] at hK
    cases hn : a.neg with
    | true =>
      rw [hn] at hK
      simp only [FYu, go_sem, hn, e1, f1, Nat.reduceEqDiff, reduceIte]
      exact hK
    | false =>
      rw [hn] at hK
      simp only [FYu, go_sem, hn, e1, f1, Nat.reduceEqDiff, reduceIte]
      exact hK
end
end
noncomputable section
def Off (p : Pos) (v : AV) : Prop := match v with | .sl b _ _ _ => b ≠ p | _ => True
section
variable {lo : Nat} {h : Tr Blk} {nx : Pos} {s n : Nat} {v : AV} {l : List AV}
theorem View.putOff (hD : View lo h nx s v l n) {p : Pos} (hp : Off p v) (B : Blk) : View lo (h.set p B) nx s v l n := by
  cases hD with
  | ns => exact .ns
  | z k l n x hl hk => exact .z k l n x hl hk
  | sl b o n c gr L l hb hl hL hn hnx hgr hlo => exact .sl b o n c gr L l (by rw [Tr.get_set_other _ _ (fun e => hp e.symm)]; exact hb) hl hL hn hnx hgr hlo
theorem View.offLow (hD : View lo h nx s v l n) {p : Pos} (hp : p.num < lo) : Off p v := by
  cases hD with
  | ns => trivial
  | z => trivial
  | sl b o n c gr L l hb hl hL hn hnx hgr hlo => exact fun e => by subst e; omega
theorem View.offHigh (hD : View lo h nx s v l n) {p : Pos} (hp : nx.num ≤ p.num) : Off p v := by
  cases hD with
  | ns => trivial
  | z => trivial
  | sl b o n c gr L l hb hl hL hn hnx hgr hlo => exact fun e => by subst e; omega
end
def DivOk (a b : Nat) : Prop := b ≠ 0 ∧ (a < b ∨ b < BB)
theorem one_digit {es : List Nat} (hc : Can es) (h0 : valD es ≠ 0) (hB : valD es < BB) : ∃ q, es = [q] ∧ q < BB ∧ q ≠ 0 := by
  have hn : es ≠ [] := fun e => h0 (by rw [e]; rfl)
  have h1 := valD_ge hc hn
  have hlen : es.length = 1 := by
    apply Classical.byContradiction
    intro hne
    have h2 : 0 < es.length := List.length_pos_iff.2 hn
    have h3 : BB ^ 1 ≤ BB ^ (es.length - 1) := Nat.pow_le_pow_right BB_pos (by omega)
    rw [Nat.pow_one] at h3
    omega
  obtain ⟨q, rfl⟩ := List.length_eq_one_iff.1 hlen
  exact ⟨q, rfl, hc.small q (by simp), hc.last q rfl⟩
section
variable {C : Ctx} {h : Tr Blk} {nx : Pos} {K : AV → Tr Blk → Pos → Prop}
theorem divide_spec (hO : Own C nYa FYa) (hT : Own C nYw FYw) (hS : Own C nYl FYl) (hR : Own C nYe FYe) {lo : Nat} {h0 : Tr Blk} {nx0 : Pos} {v u : AV} {ds es : List Nat} (hD : Dg lo h0 nx0 v ds) (hE : Dg lo h0 nx0 u es) (hg : Grow h0 nx0 h nx)
    (hb : ds.length ≤ 8000000) (hb' : es.length ≤ 8000000) (hc : Can ds) (hd : Can es) (hok : DivOk (valD ds) (valD es))
    (hK : ∀ x y qs rs h' nx', Grow h nx h' nx' → Dg 0 h' nx' x qs → Dg 0 h' nx' y rs → (∀ p, p.num < nx.num → Off p x) → (∀ p, p.num < nx.num → Off p v → Off p y) → Can qs → Can rs → valD qs = valD ds / valD es → valD rs = valD ds % valD es → Dg nx.num h' nx' x qs → (Dg lo h0 nx0 y rs ∨ Dg nx.num h' nx' y rs) → qs.length ≤ ds.length → rs.length ≤ ds.length + 1 → K (.t [x, y]) h' nx') :
    Comes C (.f (pos nYa) []) [v, u] h nx K := by
  refine hO.comes (T := ((Tr.lf.set (pos 0) v).set (pos 1) u)) rfl ?_
  show wp C Ya0 _ _ _ _
  have e1 := fun h' nx' => hD.len h' nx'
  have e2 := fun h' nx' => hE.len h' nx'
  simp only [FYa, go_sem, Nat.reduceEqDiff, reduceIte]
  refine order_spec hR hD hE hg (by omega) hc hd ?_
  by_cases hlt : valD ds < valD es
  · have f1 : decide (ordN (valD ds) (valD es) < 0) = true := by unfold ordN; rw [if_pos hlt]; rfl
    simp only [go_sem, f1, Nat.reduceEqDiff, reduceIte]
    exact hK .ns v [] ds _ _ (Grow.refl h nx) .ns ((hD.low (Nat.zero_le _)).grow hg) (fun _ _ => trivial) (fun _ _ h => h) Can.nil hc (by rw [Nat.div_eq_of_lt hlt]; rfl) (by rw [Nat.mod_eq_of_lt hlt]) .ns (.inl hD) (Nat.zero_le _) (by omega)
  · have f1 : decide (ordN (valD ds) (valD es) < 0) = false := by
      unfold ordN; rw [if_neg hlt]; split <;> rfl
    obtain ⟨q, rfl, hq, hq0⟩ := one_digit hd hok.1 (hok.2.resolve_left hlt)
    have f2 : decide ((([q] : List Nat).length : Int) = 1) = true := rfl
    have f3 := hE.addr (i := 0) (by simp) .i64 h nx
    have f4 := hE.load (i := 0) (by simp) hg.get nx
    have f5 : ((([q] : List Nat)[0]'(by simp) : Nat) : Int) = (q : Int) := rfl
    rw [f5] at f4
    simp only [Int.natCast_zero] at f3
    have hv : valD [q] = q := by simp [valD_cons, valD_nil]
    simp only [go_sem, f1, e1, e2, f2, f3, f4, Nat.reduceEqDiff, reduceIte]
    refine short_spec hS hT hD hg (by omega) hc.small hq hq0 (fun x out h' nx' hgr hX hco hlo hvo => ?_)
    simp only [go_sem, Nat.reduceEqDiff, reduceIte]
    have hrl : valD ds % q < BB := by have := Nat.mod_lt (valD ds) (show 0 < q by omega); omega
    have hY : Dg nx'.num (h'.set nx' (.cells [.i .u32 ((valD ds % q : Nat) : Int)] 0)) nx'.succ (.sl nx' 0 1 1) [valD ds % q] :=
      .sl (lo := nx'.num) nx' 0 1 1 0 _ _ (Tr.get_set_same _ _ _) rfl ⟨[], [], rfl, rfl⟩ (Nat.le_refl _) (succ_num _) (.inl rfl) (Nat.le_refl _)
    refine trim_spec hT hY (Grow.refl _ _) (by simp) (fun y hy => ?_)
    obtain ⟨k1, k2, k3⟩ := trimD_can (ds := [valD ds % q]) (fun z hz => by simp at hz; rw [hz]; exact hrl)
    try simp only [go_sem, Nat.reduceEqDiff, reduceIte]
    refine hK x y out (trimD [valD ds % q]) _ _ (hgr.new _) ((hX.low (Nat.zero_le _)).grow ((Grow.refl _ _).new _)) (hy.low (Nat.zero_le _)) (fun p hp => hX.offLow hp) (fun p hp _ => hy.offLow (Nat.lt_of_lt_of_le hp hgr.le)) hco k1 (by rw [hvo, hv]) ?_ (hX.grow ((Grow.refl _ _).new _)) (.inr (hy.low hgr.le)) hlo (by simp at k3; omega)
    rw [k2, hv]; simp [valD_cons, valD_nil]
theorem Gcd_spec (hO : Own C nYt FYt) (hV : Own C nYa FYa) (hT : Own C nYw FYw) (hS : Own C nYl FYl) (hR : Own C nYe FYe) {lo : Nat} {h0 : Tr Blk} {nx0 : Pos} {c d : AV} {a b : ZI} (hA : Zv lo h0 nx0 c a) (hB : Zv lo h0 nx0 d b) (hg : Grow h0 nx0 h nx) (hla : a.mag < LIM) (hlb : b.mag < BB)
    (hK : ∀ c h' nx', Grow h nx h' nx' → Zv 0 h' nx' c (ZI.gcd a b) → K c h' nx') : Comes C (.f (pos nYt) []) [c, d] h nx K := by
  obtain ⟨v, ds, rfl, hD, hcd, hvd⟩ := hA.dig
  obtain ⟨u, es, rfl, hE, hce, hve⟩ := hB.dig
  have hld := len_lim hcd (by rw [hvd]; exact hla)
  clear hla
  refine hO.comes (T := ((Tr.lf.set (pos 0) (.a [.b a.neg, v])).set (pos 1) (.a [.b b.neg, u]))) rfl ?_
  show wp C Yt0 _ _ _ _
  simp only [FYt, go_sem, Nat.reduceEqDiff, reduceIte]
  have hg3 := ((hg.new (.cells [.b a.neg, v] 0)).new (.cells [.b b.neg, u] 0)).new (.cells [.b false, .ns] 0)
  have hn3 := (((Grow.refl h nx).new (.cells [.b a.neg, v] 0)).new (.cells [.b b.neg, u] 0)).new (.cells [.b false, .ns] 0)
  have hbox : ∀ {w : AV} {l : List Nat}, Dg lo h0 nx0 w l → Off nx.succ.succ w := fun hw => hw.offHigh (Nat.le_trans hg.le (Nat.le_of_lt (lt_s2 nx)))
  generalize hH : ((h.set nx (.cells [.b a.neg, v] 0)).set nx.succ (.cells [.b b.neg, u] 0)).set nx.succ.succ (.cells [.b false, .ns] 0) = H at *
  refine wp_loop (fun m T h' nx' => ∃ x y xs ys, m = valD ys ∧ Grow H nx.succ.succ.succ h' nx' ∧ Dg 0 h' nx' x xs ∧ Dg 0 h' nx' y ys ∧ Off nx.succ.succ x ∧ Off nx.succ.succ y ∧ Can xs ∧ Can ys ∧ xs.length ≤ 4000000 ∧ valD ys < BB ∧ Nat.gcd (valD xs) (valD ys) = Nat.gcd a.mag b.mag ∧
    T.get (pos 4) = some (.p nx.succ.succ 0) ∧ T.get (pos 5) = some x ∧ T.get (pos 6) = some y)
    (valD es) ⟨v, u, ds, es, rfl, Grow.refl _ _, (hD.low (Nat.zero_le _)).grow hg3, (hE.low (Nat.zero_le _)).grow hg3, hbox hD, hbox hE, hcd, hce, hld, by rw [hve]; exact hlb, by rw [hvd, hve], ?_, ?_, ?_⟩ ?_
  iterate 3 · simp only [go_sem, Nat.reduceEqDiff, reduceIte]
  rintro m T h' nx' ⟨x, y, xs, ys, rfl, hgr, hX, hY, ox, oy, cx, cy, hlx, hyB, hgcd, h4, h5, h6⟩
  have e2 := hY.len h' nx'
  cases ys with
  | nil =>
    have f1 : decide ((0 : Int) < (([] : List Nat).length : Int)) = false := rfl
    have q3 : h'.get nx.succ.succ = some (.cells [.b false, .ns] 0) := by rw [hgr.get _ (lt_s1 _), ← hH, Tr.get_set_same]
    have q1 := hX.scal
    have q2 := scal_cells hX.scal
    simp only [go_sem, h4, h5, h6, e2, f1, q1, q2, q3, Nat.reduceEqDiff, reduceIte]
    refine hK _ _ _ ((hn3.trans hgr).set (Nat.le_of_lt (lt_s2 nx)) _) ⟨x, xs, rfl, hX.putOff ox _, cx, ?_⟩
    rw [valD_nil, Nat.gcd_zero_right] at hgcd
    exact hgcd
  | cons d ys =>
    have f1 : decide ((0 : Int) < ((d :: ys).length : Int)) = true := by simp
    have hy0 : valD (d :: ys) ≠ 0 := fun e => by have := (valD_zero cy).1 e; cases this
    have hy1 : (d :: ys).length ≤ 1 := by
      obtain ⟨q, hq, _⟩ := one_digit cy hy0 hyB
      rw [hq]; simp
    simp only [go_sem, h4, h5, h6, e2, f1, Nat.reduceEqDiff, reduceIte]
    refine divide_spec hV hT hS hR hX hY (Grow.refl _ _) (by omega) (by omega) cx cy ⟨hy0, .inr hyB⟩ (fun x2 y2 qs rs h2 nx2 hgr2 hX2 hY2 _ oy2 cq cr hq hr _ _ _ _ => ?_)
    simp only [go_sem, h4, h5, h6, Nat.reduceEqDiff, reduceIte]
    have hlt : valD rs < valD (d :: ys) := by rw [hr]; exact Nat.mod_lt _ (by omega)
    have hpn : nx.succ.succ.num < nx'.num := Nat.lt_of_lt_of_le (lt_s1 _) hgr.le
    refine ⟨valD rs, hlt, y, y2, d :: ys, rs, rfl, hgr.trans hgr2, hY.grow hgr2, hY2, oy, oy2 _ hpn ox, cy, cr, by omega, by omega, ?_, ?_, ?_, ?_⟩
    · rw [hr, Nat.gcd_comm (valD (d :: ys)), ← Nat.gcd_rec, Nat.gcd_comm]; exact hgcd
    all_goals first | assumption | trivial | rfl
end
end
noncomputable section
section
variable {C : Ctx} {h : Tr Blk} {nx : Pos} {K : AV → Tr Blk → Pos → Prop}
theorem From_core (hO : Own C nYy FYy) (hT : Own C nYw FYw) (hS : Own C nYac FYac) (n : Int) (m : Nat) (q : Bool) (hm : m < 18446744073709551616)
    (f1 : decide (n < 0) = q) (f2 : q = false → IntKind.u64.wrap n = (m : Int)) (f3 : q = true → IntKind.u64.wrap (0 - IntKind.u64.wrap n) = (m : Int)) (hz : ZI.of q m = ZI.ofInt n)
    (hK : ∀ c h' nx', Grow h nx h' nx' → Zv nx.num h' nx' c (ZI.ofInt n) → K c h' nx') : Comes C (.f (pos nYy) []) [.i .i64 n] h nx K := by
  refine hO.comes (T := (Tr.lf.set (pos 0) (.i .i64 n))) rfl ?_
  show wp C Yy0 _ _ _ _
  have f4 := wrap_u32 m
  have f5 := fun mm ee j => b_shr32 mm ee m j
  have f6 := wrap_u32 (m / BB)
  have hd : m / BB < BB := Nat.div_lt_of_lt_mul (show m < BB * BB by exact hm)
  rw [Nat.mod_eq_of_lt hd] at f6
  have hn2 := ((Grow.refl h nx).new (.cells [.b false, .ns] 0)).new (.cells [.i .u32 ((m % BB : Nat) : Int), .i .u32 ((m / BB : Nat) : Int)] 0)
  have hX : Dg nx.succ.num ((h.set nx (.cells [.b false, .ns] 0)).set nx.succ (.cells [.i .u32 ((m % BB : Nat) : Int), .i .u32 ((m / BB : Nat) : Int)] 0)) nx.succ.succ (.sl nx.succ 0 2 2) [m % BB, m / BB] :=
    .sl (lo := nx.succ.num) nx.succ 0 2 2 0 _ _ (Tr.get_set_same _ _ _) rfl ⟨[], [], rfl, rfl⟩ (Nat.le_refl _) (succ_num _) (.inl rfl) (Nat.le_refl _)
  have hsm : Small [m % BB, m / BB] := fun z hz => by
    simp at hz
    rcases hz with rfl | rfl
    · exact Nat.mod_lt _ BB_pos
    · exact hd
  have hval : valD [m % BB, m / BB] = m := by
    rw [valD_cons, valD_cons, valD_nil, Nat.mul_zero, Nat.add_zero]
    have := Nat.div_add_mod m BB
    omega
  have fin : ∀ (c : AV) (h2 : Tr Blk) (nx2 : Pos), Grow ((h.set nx (.cells [.b false, .ns] 0)).set nx.succ (.cells [.i .u32 ((m % BB : Nat) : Int), .i .u32 ((m / BB : Nat) : Int)] 0)) nx.succ.succ h2 nx2 →
      Zv nx.succ.num ((h.set nx (.cells [.b false, .ns] 0)).set nx.succ (.cells [.i .u32 ((m % BB : Nat) : Int), .i .u32 ((m / BB : Nat) : Int)] 0)) nx.succ.succ c (ZI.of q (valD [m % BB, m / BB])) →
      ∃ p w, c = .a [.b p, w] ∧ scal w = true ∧ cellsOf w = [w] ∧ h2.get nx = some (.cells [.b false, .ns] 0) ∧ K (.a [.b p, w]) (h2.set nx (.cells [.b p, w] 0)) nx2 := by
    intro c h2 nx2 hgr hz2
    rw [hval, hz] at hz2
    obtain ⟨w, out, rfl, g1, g2, g3⟩ := (hz2.grow hgr).dig
    refine ⟨_, w, rfl, g1.scal, scal_cells g1.scal, ?_, ?_⟩
    · rw [hgr.get _ (lt_s2 _), get_s1, Tr.get_set_same]
    · exact hK _ _ _ ((hn2.trans hgr).set (Nat.le_refl _) _) ⟨w, out, rfl, (g1.put (lt_s1 _) _).low (Nat.le_of_lt (lt_s1 nx)), g2, g3⟩
  cases q with
  | false =>
    have f2 := f2 rfl
    simp only [FYy, go_sem, f1, f2, f4, f5, f6, Nat.reduceEqDiff, reduceIte]
    refine signed_num hS hT hX (Grow.refl _ _) (by simp) hsm false (fun c h2 nx2 hgr hz2 => ?_)
    obtain ⟨p, w, rfl, q1, q2, q3, q4⟩ := fin c h2 nx2 hgr hz2
    simp only [go_sem, q1, q2, q3, Nat.reduceEqDiff, reduceIte]
    exact q4
  | true =>
    have f3 := f3 rfl
    simp only [FYy, go_sem, f1, f3, f4, f5, f6, Nat.reduceEqDiff, reduceIte]
    refine signed_num hS hT hX (Grow.refl _ _) (by simp) hsm true (fun c h2 nx2 hgr hz2 => ?_)
    obtain ⟨p, w, rfl, q1, q2, q3, q4⟩ := fin c h2 nx2 hgr hz2
    simp only [go_sem, q1, q2, q3, Nat.reduceEqDiff, reduceIte]
    exact q4
theorem From_spec (hO : Own C nYy FYy) (hT : Own C nYw FYw) (hS : Own C nYac FYac) (n : Int) (h1 : -9223372036854775808 ≤ n) (h2 : n < 9223372036854775808)
    (hK : ∀ c h' nx', Grow h nx h' nx' → Zv nx.num h' nx' c (ZI.ofInt n) → K c h' nx') : Comes C (.f (pos nYy) []) [.i .i64 n] h nx K := by
  cases n with
  | ofNat m =>
    have hm : m < 9223372036854775808 := by simp at h2; omega
    exact From_core hO hT hS (Int.ofNat m) m false (by omega) (by simp) (fun _ => wrap_u64n (by omega)) (fun h => by cases h) rfl hK
  | negSucc m =>
    have hm : m < 9223372036854775808 := by omega
    have e1 : IntKind.u64.wrap (Int.negSucc m) = ((18446744073709551615 - m : Nat) : Int) := by
      simp only [IntKind.wrap, IntKind.bits, IntKind.signed]
      simp; omega
    have e2 : IntKind.u64.wrap (0 - ((18446744073709551615 - m : Nat) : Int)) = ((m + 1 : Nat) : Int) := by
      simp only [IntKind.wrap, IntKind.bits, IntKind.signed]
      simp; omega
    exact From_core hO hT hS (Int.negSucc m) (m + 1) true (by omega) (by simp) (fun h => by cases h) (fun _ => by rw [e1, e2]) rfl hK
theorem Sub_spec (hO : Own C nYaj FYaj) (hN : Own C nYao FYao) (hA' : Own C nYm FYm) (hT : Own C nYw FYw) (hS : Own C nYac FYac) (hP : Own C nYf FYf) (hM : Own C nYg FYg) (hR : Own C nYe FYe)
    {lo : Nat} {h0 : Tr Blk} {nx0 : Pos} {c d : AV} {a b : ZI} (hA : Zv lo h0 nx0 c a) (hB : Zv lo h0 nx0 d b) (hg : Grow h0 nx0 h nx) (hla : a.mag < LIM) (hlb : b.mag < LIM)
    (hK : ∀ c h' nx', Grow h nx h' nx' → Zv nx.num h' nx' c (ZI.sub a b) → K c h' nx') : Comes C (.f (pos nYaj) []) [c, d] h nx K := by
  obtain ⟨v, ds, rfl, hD, hcd, hvd⟩ := hA.dig
  obtain ⟨u, es, rfl, hE, hce, hve⟩ := hB.dig
  refine hO.comes (T := ((Tr.lf.set (pos 0) (.a [.b a.neg, v])).set (pos 1) (.a [.b b.neg, u]))) rfl ?_
  show wp C Yaj0 _ _ _ _
  simp only [FYaj, go_sem, Nat.reduceEqDiff, reduceIte]
  have hg3 := ((hg.new (.cells [.b a.neg, v] 0)).new (.cells [.b b.neg, u] 0)).new (.cells [.b false, .ns] 0)
  have hn3 := (((Grow.refl h nx).new (.cells [.b a.neg, v] 0)).new (.cells [.b b.neg, u] 0)).new (.cells [.b false, .ns] 0)
  refine Neg_spec hN hB hg3 (fun c h' nx' hgr hz => ?_)
  have c1 := (hgr.cells (b := nx) (lt_s3 nx))
  simp only [go_sem] at c1
  simp only [go_sem, c1, Nat.reduceEqDiff, reduceIte]
  refine Add_spec hA' hT hS hP hM hR hA hz (hg3.trans hgr) hla hlb (fun c h2 nx2 hgr2 hz2 => ?_)
  obtain ⟨w, out, rfl, g1, g2, g3⟩ := hz2.dig
  have q1 := g1.scal
  have q2 := scal_cells g1.scal
  have q3 : h2.get nx.succ.succ = some (.cells [.b false, .ns] 0) := by rw [(hgr.trans hgr2).get _ (lt_s1 _), Tr.get_set_same]
  simp only [go_sem, q1, q2, q3, Nat.reduceEqDiff, reduceIte]
  exact hK _ _ _ (((hn3.trans hgr).trans hgr2).set (Nat.le_of_lt (lt_s2 nx)) _) ⟨w, out, rfl, (g1.put (Nat.lt_of_lt_of_le (lt_s1 _) hgr.le) _).low (Nat.le_trans (Nat.le_of_lt (lt_s3 nx)) hgr.le), g2, g3⟩
end
end
noncomputable section
structure Zs (N M : Nat) (h : Tr Blk) (nx : Pos) (c : AV) (a : ZI) : Prop where
  ex : ∃ lo hh nn, Zv lo hh nn c a ∧ Grow hh nn h nx ∧ (nn.num ≤ N ∨ M ≤ lo)
attribute [go_sem] Bool.not_true Bool.not_false
@[go_sem] theorem get_u1 {h : Tr Blk} {B : Blk} (p : Pos) : (h.set p B).get p.succ = h.get p.succ := Tr.get_set_other _ _ (fun e => by have := succ_num p; rw [← e] at this; omega)
@[go_sem] theorem get_u2 {h : Tr Blk} {B : Blk} (p : Pos) : (h.set p B).get p.succ.succ = h.get p.succ.succ := Tr.get_set_other _ _ (fun e => by have := succ_num p; have := succ_num p.succ; rw [← e] at this; omega)
@[go_sem] theorem get_u3 {h : Tr Blk} {B : Blk} (p : Pos) : (h.set p B).get p.succ.succ.succ = h.get p.succ.succ.succ := Tr.get_set_other _ _ (fun e => by have := succ_num p; have := succ_num p.succ; have := succ_num p.succ.succ; rw [← e] at this; omega)
@[go_sem] theorem get_u4 {h : Tr Blk} {B : Blk} (p : Pos) : (h.set p B).get p.succ.succ.succ.succ = h.get p.succ.succ.succ.succ := Tr.get_set_other _ _ (fun e => by have := succ_num p; have := succ_num p.succ; have := succ_num p.succ.succ; have := succ_num p.succ.succ.succ; rw [← e] at this; omega)
@[go_sem] theorem cells_u1 {h : Tr Blk} {B : Blk} (p : Pos) : cellsAt (h.set p B) p.succ = cellsAt h p.succ := cells_other B (fun e => by have := succ_num p; rw [← e] at this; omega)
@[go_sem] theorem cells_u2 {h : Tr Blk} {B : Blk} (p : Pos) : cellsAt (h.set p B) p.succ.succ = cellsAt h p.succ.succ := cells_other B (fun e => by have := succ_num p; have := succ_num p.succ; rw [← e] at this; omega)
@[go_sem] theorem cells_u3 {h : Tr Blk} {B : Blk} (p : Pos) : cellsAt (h.set p B) p.succ.succ.succ = cellsAt h p.succ.succ.succ := cells_other B (fun e => by have := succ_num p; have := succ_num p.succ; have := succ_num p.succ.succ; rw [← e] at this; omega)
@[go_sem] theorem cells_u4 {h : Tr Blk} {B : Blk} (p : Pos) : cellsAt (h.set p B) p.succ.succ.succ.succ = cellsAt h p.succ.succ.succ.succ := cells_other B (fun e => by have := succ_num p; have := succ_num p.succ; have := succ_num p.succ.succ; have := succ_num p.succ.succ.succ; rw [← e] at this; omega)
theorem pow_gt (n e : Nat) (h : n < BB) (he : 1 ≤ e) : n < BB ^ e := by
  have := Nat.pow_le_pow_right BB_pos he
  rw [Nat.pow_one] at this
  omega
theorem lim_gt {n : Nat} (h : n < BB) : n < LIM := by
  unfold LIM
  exact pow_gt n 4000000 h (by decide)
section
variable {N M lo : Nat} {h h' : Tr Blk} {nx nx' : Pos} {c : AV} {a : ZI}
theorem Zv.low (hz : Zv lo h nx c a) {l : Nat} (hl : l ≤ lo) : Zv l h nx c a := by
  obtain ⟨v, ds, h1, h2, h3, h4⟩ := hz.dig
  exact ⟨v, ds, h1, h2.low hl, h3, h4⟩
theorem Zv.put (hz : Zv lo h nx c a) {p : Pos} (hp : p.num < lo) (B : Blk) : Zv lo (h.set p B) nx c a := by
  obtain ⟨v, ds, h1, h2, h3, h4⟩ := hz.dig
  exact ⟨v, ds, h1, h2.put hp B, h3, h4⟩
theorem Zs.zv (hz : Zs N M h nx c a) : Zv 0 h nx c a := by
  obtain ⟨lo, hh, nn, h1, h2, _⟩ := hz.ex
  exact (h1.grow h2).low (Nat.zero_le _)
theorem Zs.grow (hz : Zs N M h nx c a) (hg : Grow h nx h' nx') : Zs N M h' nx' c a := by
  obtain ⟨lo, hh, nn, h1, h2, h3⟩ := hz.ex
  exact ⟨lo, hh, nn, h1, h2.trans hg, h3⟩
theorem Zs.put (hz : Zs N M h nx c a) {p : Pos} (h1 : N ≤ p.num) (h2 : p.num < M) (B : Blk) : Zs N M (h.set p B) nx c a := by
  obtain ⟨lo, hh, nn, k1, k2, k3⟩ := hz.ex
  rcases k3 with k3 | k3
  · exact ⟨lo, hh, nn, k1, k2.set (Nat.le_trans k3 h1) B, .inl k3⟩
  · refine ⟨lo, hh.set p B, nn, k1.put (Nat.lt_of_lt_of_le h2 k3) B, ⟨k2.le, fun b hb => ?_⟩, .inr k3⟩
    by_cases hbp : p = b
    · subst hbp; rw [Tr.get_set_same, Tr.get_set_same]
    · rw [Tr.get_set_other _ _ hbp, Tr.get_set_other _ _ hbp, k2.get b hb]
theorem Zs.old {h0 : Tr Blk} {nx0 : Pos} (hz : Zv lo h0 nx0 c a) (hg : Grow h0 nx0 h nx) (hn : nx0.num ≤ N) : Zs N M h nx c a := ⟨lo, h0, nx0, hz, hg, .inl hn⟩
theorem Zs.new (hz : Zv lo h nx c a) (hn : M ≤ lo) : Zs N M h nx c a := ⟨lo, h, nx, hz, Grow.refl _ _, .inr hn⟩
theorem Zs.open (hz : Zs N M h nx c a) : ∃ v, c = .a [.b a.neg, v] ∧ scal v = true ∧ cellsOf v = [v] := by
  obtain ⟨v, ds, h1, h2, h3, h4⟩ := hz.zv.dig
  exact ⟨v, h1, h2.scal, scal_cells h2.scal⟩
end
section
variable {C : Ctx} {h : Tr Blk} {nx : Pos} {K : AV → Tr Blk → Pos → Prop}
set_option maxHeartbeats 1000000 in
theorem DivMod_spec (hO : Own C nYh FYh) (hV : Own C nYa FYa) (hH : Own C nYl FYl) (hG : Own C nYu FYu) (hF : Own C nYy FYy) (hU : Own C nYaj FYaj)
    (hN : Own C nYao FYao) (hA' : Own C nYm FYm) (hT : Own C nYw FYw) (hS : Own C nYac FYac) (hP : Own C nYf FYf) (hM : Own C nYg FYg) (hR : Own C nYe FYe)
    {lo : Nat} {h0 : Tr Blk} {nx0 : Pos} {c d : AV} {a b : ZI} (hA : Zv lo h0 nx0 c a) (hB : Zv lo h0 nx0 d b) (hg : Grow h0 nx0 h nx) (hla : a.mag < LIM) (hlb : b.mag < LIM) (hok : DivOk a.mag b.mag)
    (hK : ∀ c d h' nx', Grow h nx h' nx' → Zv 0 h' nx' c (ZI.divmod a b).1 → Zv 0 h' nx' d (ZI.divmod a b).2 → K (.t [c, d, .i .i64 0]) h' nx') : Comes C (.f (pos nYh) []) [c, d] h nx K := by
  obtain ⟨v, ds, rfl, hD, hcd, hvd⟩ := hA.dig
  obtain ⟨u, es, rfl, hE, hce, hve⟩ := hB.dig
  have hld := len_lim hcd (by rw [hvd]; exact hla)
  have hle := len_lim hce (by rw [hve]; exact hlb)
  refine hO.comes (T := ((Tr.lf.set (pos 0) (.a [.b a.neg, v])).set (pos 1) (.a [.b b.neg, u]))) rfl ?_
  show wp C Yh0 _ _ _ _
  simp only [FYh, go_sem, Nat.reduceEqDiff, reduceIte]
  have hg4 := (((hg.new (.cells [.b a.neg, v] 0)).new (.cells [.b b.neg, u] 0)).new (.cells [.b false, .ns] 0)).new (.cells [.b false, .ns] 0)
  have hn4 := ((((Grow.refl h nx).new (.cells [.b a.neg, v] 0)).new (.cells [.b b.neg, u] 0)).new (.cells [.b false, .ns] 0)).new (.cells [.b false, .ns] 0)
  refine Sign_spec hG hB hg4 (fun h1 nx1 gr1 => ?_)
  have f0 : decide (ZI.sign b = 0) = false := by
    have : ZI.sign b ≠ 0 := by
      unfold ZI.sign
      have h0 : Nat.beq b.mag 0 = false := by
        cases hq : Nat.beq b.mag 0 with
        | false => rfl
        | true => exact absurd (Nat.eq_of_beq_eq_true hq) hok.1
      rw [h0]; cases b.neg <;> decide
    simpa using this
  have c1 := (gr1.cells (b := nx) (lt_s4 nx))
  have c2 := (gr1.cells (b := nx.succ) (lt_s3 _))
  simp only [go_sem] at c1 c2
  simp only [go_sem, f0, c1, c2, Nat.reduceEqDiff, reduceIte]
  refine divide_spec hV hT hH hR hD hE (hg4.trans gr1) (by omega) (by omega) hcd hce (by rw [hvd, hve]; exact hok) (fun x y qs rs h2 nx2 gr2 _ _ _ _ cq cr hq hr hX hY lq lr => ?_)
  have gr12 := gr1.trans gr2
  have d1 := (gr12.cells (b := nx) (lt_s4 nx))
  have d2 := (gr12.cells (b := nx.succ) (lt_s3 _))
  simp only [go_sem] at d1 d2
  simp only [go_sem, d1, d2, Nat.reduceEqDiff, reduceIte]
  have n1 := lt_s1 nx
  have n2 := lt_s2 nx
  have n3 := lt_s3 nx
  have n4 := lt_s4 nx
  have n5 := lt_s1 nx.succ.succ
  have n6 := lt_s2 nx.succ.succ
  have n7 := lt_s1 nx.succ.succ.succ
  have n8 := gr1.le
  have n9 := gr2.le
  have n0 := hg.le
  have n10 := lt_s3 nx.succ
  refine signed_num hS hT hX (Grow.refl _ _) (by omega) cq.small (!(a.neg == b.neg)) (fun q h3 nx3 gr3 hzq => ?_)
  have hq3 : Zs nx.num nx.succ.succ.succ.succ.num h3 nx3 q (ZI.of (!(a.neg == b.neg)) (a.mag / b.mag)) := by
    rw [hq, hvd, hve] at hzq
    exact Zs.new (hzq.grow gr3) n8
  have gr123 := gr12.trans gr3
  have e1 := (gr123.cells (b := nx) (lt_s4 nx))
  have e2 := (gr123.cells (b := nx.succ) (lt_s3 _))
  simp only [go_sem] at e1 e2
  simp only [go_sem, e1, e2, Nat.reduceEqDiff, reduceIte]
  obtain ⟨lo', hh, nn, hY', gY, oY⟩ : ∃ lo' hh nn, Dg lo' hh nn y rs ∧ Grow hh nn h3 nx3 ∧ (nn.num ≤ nx.num ∨ nx.succ.succ.succ.succ.num ≤ lo') := by
    rcases hY with hY | hY
    · exact ⟨lo, h0, nx0, hY, hg4.trans gr123, .inl n0⟩
    · exact ⟨_, h2, nx2, hY, gr3, .inr n8⟩
  refine signed_num hS hT hY' gY (by omega) cr.small a.neg (fun r h4 nx4 gr4 hzr => ?_)
  have hq4 := hq3.grow gr4
  have hr4 : Zs nx.num nx.succ.succ.succ.succ.num h4 nx4 r (ZI.of a.neg (a.mag % b.mag)) := by
    rw [hr, hvd, hve] at hzr
    exact ⟨lo', hh, nn, hzr, gY.trans gr4, oY⟩
  have hb4 : Zs nx.num nx.succ.succ.succ.succ.num h4 nx4 (.a [.b b.neg, u]) b := Zs.old hB ((hg4.trans gr123).trans gr4) n0
  have g4 := gr123.trans gr4
  have e1 := (g4.cells (b := nx) (lt_s4 nx))
  have e2 := (g4.cells (b := nx.succ) (lt_s3 _))
  have q2 : h4.get nx.succ.succ = some (.cells [.b false, .ns] 0) := by rw [g4.get _ n6]; simp only [go_sem]
  have q3 : h4.get nx.succ.succ.succ = some (.cells [.b false, .ns] 0) := by rw [g4.get _ n7]; exact Tr.get_set_same _ _ _
  simp only [go_sem] at e1 e2
  obtain ⟨vq, rfl, sq1, sq2⟩ := hq4.open
  obtain ⟨vr, rfl, sr1, sr2⟩ := hr4.open
  have gn4 := hn4.trans (gr123.trans gr4)
  clear hq3 hzq hzr gr1 gr2 gr3 gr12 gr123 c1 c2 d1 d2 hX hY gY
  have hb5 := (hb4.put (p := nx.succ.succ) (by omega) (by omega) (.cells [.b (ZI.of (!(a.neg == b.neg)) (a.mag / b.mag)).neg, vq] 0)).put (p := nx.succ.succ.succ) (by omega) (by omega) (.cells [.b (ZI.of a.neg (a.mag % b.mag)).neg, vr] 0)
  have hq5 := (hq4.put (p := nx.succ.succ) (by omega) (by omega) (.cells [.b (ZI.of (!(a.neg == b.neg)) (a.mag / b.mag)).neg, vq] 0)).put (p := nx.succ.succ.succ) (by omega) (by omega) (.cells [.b (ZI.of a.neg (a.mag % b.mag)).neg, vr] 0)
  have hr5 := (hr4.put (p := nx.succ.succ) (by omega) (by omega) (.cells [.b (ZI.of (!(a.neg == b.neg)) (a.mag / b.mag)).neg, vq] 0)).put (p := nx.succ.succ.succ) (by omega) (by omega) (.cells [.b (ZI.of a.neg (a.mag % b.mag)).neg, vr] 0)
  simp only [go_sem, e1, e2, q2, q3, sq1, sq2, sr1, sr2, Nat.reduceEqDiff, reduceIte]
  refine Sign_spec hG hr5.zv (Grow.refl _ _) (fun h5 nx5 gr5 => ?_)
  generalize hQ : ZI.of (!(a.neg == b.neg)) (a.mag / b.mag) = Q at *
  generalize hRr : ZI.of a.neg (a.mag % b.mag) = R at *
  have mQ : Q.mag = a.mag / b.mag := by rw [← hQ]; rfl
  have mR : R.mag = a.mag % b.mag := by rw [← hRr]; rfl
  have m5 : nx4.num ≤ nx5.num := gr5.le
  have m4 : nx.succ.succ.succ.succ.num ≤ nx4.num := g4.le
  have k1 : cellsAt h5 nx.succ = some [.b b.neg, u] := by rw [gr5.cells (b := nx.succ) (by omega)]; simp only [go_sem, e2]
  have k2 : cellsAt h5 nx.succ.succ = some [.b Q.neg, vq] := by rw [gr5.cells (b := nx.succ.succ) (by omega)]; simp only [go_sem]
  have k3 : cellsAt h5 nx.succ.succ.succ = some [.b R.neg, vr] := by rw [gr5.cells (b := nx.succ.succ.succ) (by omega)]; simp only [go_sem]
  have g2 : h5.get nx.succ.succ = some (.cells [.b Q.neg, vq] 0) := by rw [gr5.get _ (by omega)]; simp only [go_sem]
  have g3 : h5.get nx.succ.succ.succ = some (.cells [.b R.neg, vr] 0) := by rw [gr5.get _ (by omega)]; exact Tr.get_set_same _ _ _
  have hq6 := hq5.grow gr5
  have hr6 := hr5.grow gr5
  have hb6 := hb5.grow gr5
  have gn5 : Grow h nx h5 nx5 := ((gn4.set (Nat.le_of_lt n2) _).set (Nat.le_of_lt n3) _).trans gr5
  clear hb5 hq5 hr5 hb4 hq4 hr4 gr5 gr4 g4 gn4 hn4 hg4 q2 q3 e1 e2
  have fin : ∀ H N wq wr (q r : ZI), Grow h nx H N → nx.succ.succ.succ.succ.num ≤ N.num → Zs nx.num nx.succ.succ.succ.succ.num H N (.a [.b q.neg, wq]) q → Zs nx.num nx.succ.succ.succ.succ.num H N (.a [.b r.neg, wr]) r → ZI.divmod a b = (q, r) →
      K (.t [.a [.b q.neg, wq], .a [.b r.neg, wr], .i .i64 0]) ((H.set nx.succ.succ (.cells [.b q.neg, wq] 0)).set nx.succ.succ.succ (.cells [.b r.neg, wr] 0)) N := by
    intro H N wq wr q r w1 w2 w3 w4 w5
    refine hK _ _ _ _ ((w1.set (Nat.le_of_lt n2) _).set (Nat.le_of_lt n3) _) ?_ ?_
    · rw [w5]; exact ((w3.put (by omega) (by omega) _).put (by omega) (by omega) _).zv
    · rw [w5]; exact ((w4.put (by omega) (by omega) _).put (by omega) (by omega) _).zv
  have sgn : decide (ZI.sign R = 0) = Nat.beq R.mag 0 := by
    unfold ZI.sign
    cases Nat.beq R.mag 0 with
    | true => rfl
    | false => cases R.neg <;> rfl
  have dm : ZI.divmod a b = bif (!Nat.beq R.mag 0) && !(R.neg == b.neg) then (ZI.sub Q ⟨false, 1⟩, ZI.add R b) else (Q, R) := by
    rw [← hQ, ← hRr]; rfl
  cases hz : Nat.beq R.mag 0 with
  | true =>
    rw [hz] at sgn dm
    simp only [go_sem, sgn, k1, k2, k3, g2, g3, sq1, sq2, sr1, sr2, Nat.reduceEqDiff, reduceIte]
    exact fin h5 nx5 vq vr Q R gn5 (by omega) hq6 hr6 dm
  | false =>
    rw [hz] at sgn dm
    cases hs : R.neg == b.neg with
    | true =>
      rw [hs] at dm
      simp only [go_sem, sgn, hs, k1, k2, k3, g2, g3, sq1, sq2, sr1, sr2, Nat.reduceEqDiff, reduceIte]
      exact fin h5 nx5 vq vr Q R gn5 (by omega) hq6 hr6 dm
    | false =>
      rw [hs] at dm
      simp only [go_sem, sgn, hs, k1, k2, k3, g2, g3, sq1, sq2, sr1, sr2, Nat.reduceEqDiff, reduceIte]
      refine From_spec hF hT hS 1 (by decide) (by decide) (fun c6 h6 nx6 gr6 hz6 => ?_)
      have k1' : cellsAt h6 nx.succ = some [.b b.neg, u] := by rw [gr6.cells (by omega)]; exact k1
      have k2' : cellsAt h6 nx.succ.succ = some [.b Q.neg, vq] := by rw [gr6.cells (by omega)]; exact k2
      have k3' : cellsAt h6 nx.succ.succ.succ = some [.b R.neg, vr] := by rw [gr6.cells (by omega)]; exact k3
      simp only [go_sem, k1', k2', k3', Nat.reduceEqDiff, reduceIte]
      refine Sub_spec hU hN hA' hT hS hP hM hR (hq6.grow gr6).zv (hz6.low (Nat.zero_le _)) (Grow.refl _ _) (by rw [mQ]; exact Nat.lt_of_le_of_lt (Nat.div_le_self _ _) hla) (lim_gt (by decide)) (fun c7 h7 nx7 gr7 hz7 => ?_)
      have l1 := gr6.le
      have l2 := gr7.le
      have gr67 := gr6.trans gr7
      have k1'' : cellsAt h7 nx.succ = some [.b b.neg, u] := by rw [gr67.cells (by omega)]; exact k1
      have k3'' : cellsAt h7 nx.succ.succ.succ = some [.b R.neg, vr] := by rw [gr67.cells (by omega)]; exact k3
      simp only [go_sem, k1'', k3'', Nat.reduceEqDiff, reduceIte]
      refine Add_spec hA' hT hS hP hM hR (hr6.grow gr67).zv (hb6.grow gr67).zv (Grow.refl _ _) (by rw [mR]; exact Nat.lt_of_le_of_lt (Nat.mod_le _ _) hla) hlb (fun c8 h8 nx8 gr8 hz8 => ?_)
      have l3 := gr8.le
      have gr68 := gr67.trans gr8
      have h1s : ZI.sub Q (ZI.ofInt 1) = ZI.sub Q ⟨false, 1⟩ := rfl
      rw [h1s] at hz7
      have hq8 : Zs nx.num nx.succ.succ.succ.succ.num h8 nx8 c7 (ZI.sub Q ⟨false, 1⟩) := (Zs.new (hz7.low (show nx.succ.succ.succ.succ.num ≤ _ by omega)) (Nat.le_refl _)).grow gr8
      have hr8 : Zs nx.num nx.succ.succ.succ.succ.num h8 nx8 c8 (ZI.add R b) := Zs.new (hz8.low (show nx.succ.succ.succ.succ.num ≤ _ by omega)) (Nat.le_refl _)
      obtain ⟨wq, rfl, tq1, tq2⟩ := hq8.open
      obtain ⟨wr, rfl, tr1, tr2⟩ := hr8.open
      have g2' : h8.get nx.succ.succ = some (.cells [.b Q.neg, vq] 0) := by rw [gr68.get _ (by omega)]; exact g2
      have g3' : h8.get nx.succ.succ.succ = some (.cells [.b R.neg, vr] 0) := by rw [gr68.get _ (by omega)]; exact g3
      simp only [go_sem, g2', g3', tq1, tq2, tr1, tr2, Tr.get_set_same, Nat.reduceEqDiff, reduceIte]
      exact fin _ nx8 wq wr _ _ (((gn5.trans gr68).set (Nat.le_of_lt n2) _).set (Nat.le_of_lt n3) _) (by omega) ((hq8.put (by omega) (by omega) _).put (by omega) (by omega) _) ((hr8.put (by omega) (by omega) _).put (by omega) (by omega) _) dm
end
end
noncomputable section
def zv (a : ZI) : AV := .a [.b a.neg, .g a.mag]
section
variable {Z : Nat → Option Obj} {P : Program}
theorem VL.digs {Γ : G} : ∀ (ds : List Nat), VL Γ (ds.map dg) (ds.map fun (d : Nat) => .int .u32 (d : Int))
  | [] => .nil
  | d :: ds => .cons (.i .u32 (d : Int)) (VL.digs ds)
theorem pu_digs (k : Bool) : ∀ (ds : List Nat), puL k (ds.map dg) = true
  | [] => rfl
  | d :: ds => pu_digs k ds
theorem V.opened {Γ : G} {n : Nat} {x : Value} (hv : V Γ (.g n) x) : ∃ ds, Can ds ∧ valD ds = n ∧ V Γ (.z false (ds.map dg) ds.length false) x := by
  cases hv with
  | g _ a len cap h =>
    obtain ⟨ds, h1, h2, h3, h4, ⟨h5, h6⟩, h7⟩ := h
    subst h2
    refine ⟨ds, ⟨h3, h4⟩, h1, .z false _ _ false a cap _ (VL.digs ds) ?_ h5 (fun h => by cases h) h6 (pu_digs _ ds)⟩
    rcases h7 with h7 | ⟨rb, off, C, t, g1, g2, g3⟩
    · left; rw [h7]; rfl
    · refine .inr ⟨rb, off, C, t, g1, g2, fun j y hy => ?_⟩
      rw [List.getElem?_map] at hy
      cases hd : ds[j]? with
      | none => rw [hd] at hy; cases hy
      | some d => rw [hd] at hy; cases hy; exact g3 j d hd
theorem zv_open {Γ : G} {a : ZI} {x : Value} (hv : V Γ (zv a) x) : ∃ c, Zv 0 .lf .h c a ∧ V Γ c x := by
  unfold zv at hv
  obtain ⟨vs, rfl, h1⟩ : ∃ vs, x = .agg vs ∧ VL Γ [.b a.neg, .g a.mag] vs.toList := by cases hv with | a _ vs h => exact ⟨vs, rfl, h⟩
  generalize hq : vs.toList = q at h1
  cases h1 with
  | cons h2 h3 =>
    cases h3 with
    | cons h4 h5 =>
      cases h5
      obtain ⟨ds, k1, k2, k3⟩ := h4.opened
      exact ⟨.a [.b a.neg, .z false (ds.map dg) ds.length false], ⟨_, ds, rfl, .z false _ _ false (by simp) (fun _ => rfl), k1, k2⟩, .a _ vs (by rw [hq]; exact .cons h2 (.cons k3 .nil))⟩
theorem digs_eq (ds : List Nat) : ds.map dg = ds.map fun d => .i .u32 (Int.ofNat d) := rfl
theorem Fz.digs (k : Bool) (h : Tr Blk) : ∀ (ds : List Nat), FzL k h (ds.map dg) (ds.map dg)
  | [] => .nil
  | d :: ds => .cons (.same _ rfl) (Fz.digs k h ds)
theorem Dg.fz {lo : Nat} {h : Tr Blk} {nx : Pos} {v : AV} {ds : List Nat} (hD : Dg lo h nx v ds) : ∃ x, Fz false h v (.z false (ds.map dg) ds.length x) := by
  cases ds with
  | nil =>
    unfold Dg at hD
    generalize hl : ([] : List Nat).map dg = l at hD
    generalize hn : ([] : List Nat).length = n at hD
    cases hD with
    | ns => exact ⟨false, .nil⟩
    | z k l n x hl' hk => cases hk rfl; subst hl; subst hn; exact ⟨x, .same _ rfl⟩
    | sl b o n c gr L l hb hll hL hn' hnx hgr hlo =>
      obtain ⟨p, q, rfl, hpo⟩ := hL
      subst hl; subst hn
      exact ⟨false, .sl b o _ c 1 gr _ _ _ hb (sub_some hpo (by simpa using hll)) .nil⟩
  | cons d ds =>
    unfold Dg at hD
    generalize hl : (d :: ds).map dg = l at hD
    generalize hn : (d :: ds).length = n at hD
    cases hD with
    | ns => cases hn
    | z k l n x hl' hk => cases hk rfl; subst hl; subst hn; exact ⟨x, .same _ (pu_digs false (d :: ds))⟩
    | sl b o n c gr L l hb hll hL hn' hnx hgr hlo =>
      obtain ⟨p, q, rfl, hpo⟩ := hL
      refine ⟨false, .sl b o n c 1 gr _ l l hb (sub_some hpo (by simpa using hll)) ?_⟩
      rw [← hl]; exact Fz.digs _ _ _
theorem Zv.fz {lo : Nat} {h : Tr Blk} {nx : Pos} {c : AV} {a : ZI} (hz : Zv lo h nx c a) : Fz false h c (zv a) := by
  obtain ⟨v, ds, rfl, h2, h3, h4⟩ := hz.dig
  obtain ⟨x, hx⟩ := h2.fz
  refine .a _ _ (.cons (.same _ rfl) (.cons ?_ .nil))
  rw [← h4]
  exact .g v ds x rfl hx h3.small h3.last
theorem pure1 (hmx : P.follows .mixedOrders = true) {C : Ctx} (hC : CtxOk P (LOk P Z) C) {f : Nat} {a : ZI} {r : AV}
    (hx : ∀ c, Zv 0 .lf .h c a → Comes C (.f (pos f) []) [c] .lf .h (fun v h' _ => Fz false h' v r)) : PureOk P (LOk P Z) f [zv a] r := by
  intro Γ w args hμ hr hv
  generalize hq : args.toList = q at hv
  cases hv with
  | cons h1 h2 =>
    cases h2
    obtain ⟨c, k1, k2⟩ := zv_open h1
    obtain ⟨k, v, h', nx', k3, k4⟩ := (hx c k1).calls
    exact pure_of_calls hmx hC k3 k4 Γ w args hμ hr (by rw [hq]; exact .cons k2 .nil)
theorem pure2 (hmx : P.follows .mixedOrders = true) {C : Ctx} (hC : CtxOk P (LOk P Z) C) {f : Nat} {a b : ZI} {r : AV}
    (hx : ∀ c d, Zv 0 .lf .h c a → Zv 0 .lf .h d b → Comes C (.f (pos f) []) [c, d] .lf .h (fun v h' _ => Fz false h' v r)) : PureOk P (LOk P Z) f [zv a, zv b] r := by
  intro Γ w args hμ hr hv
  generalize hq : args.toList = q at hv
  cases hv with
  | cons h1 h2 =>
    cases h2 with
    | cons h2 h3 =>
      cases h3
      obtain ⟨c, k1, k2⟩ := zv_open h1
      obtain ⟨d, k5, k6⟩ := zv_open h2
      obtain ⟨k, v, h', nx', k3, k4⟩ := (hx c d k1 k5).calls
      exact pure_of_calls hmx hC k3 k4 Γ w args hμ hr (by rw [hq]; exact .cons k2 (.cons k6 .nil))
theorem pure0 (hmx : P.follows .mixedOrders = true) {C : Ctx} (hC : CtxOk P (LOk P Z) C) {f : Nat} {us : List AV} {r : AV}
    (hx : Comes C (.f (pos f) []) us .lf .h (fun v h' _ => Fz false h' v r)) : PureOk P (LOk P Z) f us r := by
  obtain ⟨k, v, h', nx', k3, k4⟩ := hx.calls
  exact pure_of_calls hmx hC k3 k4
end
end
noncomputable section
def digF (f : Nat) : Nat → List Nat := Nat.rec (fun _ => []) (fun _ ih n => bif Nat.beq n 0 then [] else (n % 4294967296) :: ih (n / 4294967296)) f
def digN (n : Nat) : List Nat := digF n n
theorem digF_ok : ∀ (f n : Nat), n ≤ f → Can (digF f n) ∧ valD (digF f n) = n ∧ (n ≠ 0 → digF f n ≠ [])
  | 0, n, h => by
    obtain rfl : n = 0 := by omega
    exact ⟨Can.nil, rfl, fun h => absurd rfl h⟩
  | f + 1, n, h => by
    show Can (bif Nat.beq n 0 then [] else (n % 4294967296) :: digF f (n / 4294967296)) ∧ valD (bif Nat.beq n 0 then [] else (n % 4294967296) :: digF f (n / 4294967296)) = n ∧ (n ≠ 0 → (bif Nat.beq n 0 then [] else (n % 4294967296) :: digF f (n / 4294967296)) ≠ [])
    cases h0 : Nat.beq n 0 with
    | true =>
      obtain rfl := Nat.eq_of_beq_eq_true h0
      exact ⟨Can.nil, rfl, fun h => absurd rfl h⟩
    | false =>
      have hn : n ≠ 0 := fun e => by subst e; cases h0
      have hq : n / 4294967296 ≤ f := by omega
      obtain ⟨h1, h2, h3⟩ := digF_ok f (n / 4294967296) hq
      refine ⟨⟨?_, ?_⟩, ?_, fun _ h => by cases h⟩
      · intro d hd
        rcases List.mem_cons.1 hd with rfl | hd
        · exact Nat.mod_lt _ (by decide)
        · exact h1.small d hd
      · intro d hd
        cases hl : digF f (n / 4294967296) with
        | nil =>
          rw [hl] at hd
          have hd' : n % 4294967296 = d := by simpa using hd
          rw [hl] at h2
          have : n / 4294967296 = 0 := h2.symm
          omega
        | cons x t =>
          rw [hl, cond_false, List.getLast?_cons_cons, ← hl] at hd
          exact h1.last d hd
      · rw [cond_false, valD_cons, h2]
        show n % 4294967296 + 4294967296 * (n / 4294967296) = n
        omega
theorem Can.tail {d : Nat} {ds : List Nat} (h : Can (d :: ds)) : Can ds :=
  ⟨fun x hx => h.small x (by simp [hx]), fun x hx => h.last x (by cases ds with | nil => cases hx | cons y t => rw [List.getLast?_cons_cons]; exact hx)⟩
theorem can_eq : ∀ {a b : List Nat}, Can a → Can b → valD a = valD b → a = b
  | [], b, ha, hb, h => ((valD_zero hb).1 h.symm).symm
  | a :: l, [], ha, hb, h => (valD_zero ha).1 h
  | a :: l, b :: m, ha, hb, h => by
    rw [valD_cons, valD_cons] at h
    have h1 : a < BB := ha.small a (by simp)
    have h2 : b < BB := hb.small b (by simp)
    have h3 : a = b := by
      have := congrArg (· % BB) h
      simp only [Nat.add_mul_mod_self_left, Nat.mod_eq_of_lt h1, Nat.mod_eq_of_lt h2] at this
      exact this
    subst h3
    have h4 : valD l = valD m := Nat.eq_of_mul_eq_mul_left BB_pos (by omega)
    rw [can_eq ha.tail hb.tail h4]
theorem digN_eq {ds : List Nat} (h : Can ds) : digN (valD ds) = ds := by
  obtain ⟨h1, h2, _⟩ := digF_ok (valD ds) (valD ds) (Nat.le_refl _)
  exact can_eq h1 h h2
def openI (a : ZI) : AV := .a [.b a.neg, .z false ((digN a.mag).map dg) (digN a.mag).length false]
section
variable {Z : Nat → Option Obj} {P : Program}
theorem zv_openI {Γ : G} {a : ZI} {x : Value} (hv : V Γ (zv a) x) : V Γ (openI a) x := by
  unfold zv at hv
  obtain ⟨vs, rfl, h1⟩ : ∃ vs, x = .agg vs ∧ VL Γ [.b a.neg, .g a.mag] vs.toList := by cases hv with | a _ vs h => exact ⟨vs, rfl, h⟩
  generalize hq : vs.toList = q at h1
  cases h1 with
  | cons h2 h3 =>
    cases h3 with
    | cons h4 h5 =>
      cases h5
      obtain ⟨ds, k1, k2, k3⟩ := h4.opened
      refine .a _ vs (by rw [hq]; refine .cons h2 (.cons ?_ .nil); rw [← k2, digN_eq k1]; exact k3)
theorem pure_run1 (hmx : P.follows .mixedOrders = true) {C : Ctx} (hC : CtxOk P (LOk P Z) C) {k f : Nat} {a : ZI} {v r : AV} {h' : Tr Blk} {nx' : Pos} (hx : calls C k (pos f) [openI a] .lf .h = .ok v h' nx') (hz : Fz false h' v r) : PureOk P (LOk P Z) f [zv a] r := by
  intro Γ w args hμ hr hv
  generalize hq : args.toList = q at hv
  cases hv with
  | cons h1 h2 =>
    cases h2
    exact pure_of_calls hmx hC hx hz Γ w args hμ hr (by rw [hq]; exact .cons (zv_openI h1) .nil)
theorem pure_run2 (hmx : P.follows .mixedOrders = true) {C : Ctx} (hC : CtxOk P (LOk P Z) C) {k f : Nat} {a b : ZI} {v r : AV} {h' : Tr Blk} {nx' : Pos} (hx : calls C k (pos f) [openI a, openI b] .lf .h = .ok v h' nx') (hz : Fz false h' v r) : PureOk P (LOk P Z) f [zv a, zv b] r := by
  intro Γ w args hμ hr hv
  generalize hq : args.toList = q at hv
  cases hv with
  | cons h1 h2 =>
    cases h2 with
    | cons h2 h3 =>
      cases h3
      exact pure_of_calls hmx hC hx hz Γ w args hμ hr (by rw [hq]; exact .cons (zv_openI h1) (.cons (zv_openI h2) .nil))
end
def dgs (l : List AV) : Option (List Nat) :=
  List.rec (some []) (fun x _ ih => match x with | .i .u32 (.ofNat d) => bif Nat.blt d 4294967296 then (match ih with | some r => some (d :: r) | none => none) else none | _ => none) l
def topOk (l : List Nat) : Bool := List.rec true (fun d t ih => List.casesOn t (Bool.not (Nat.beq d 0)) (fun _ _ => ih)) l
def fzD (q : Option (List AV)) : Option AV := match q with | some q => (match dgs q with | some ds => bif topOk ds then some (.g (valD ds)) else none | none => none) | none => none
def fz0 (h : Tr Blk) (v : AV) : Option AV :=
  match v with
  | .ns => some (.g 0)
  | .sl b o n _ => (match cellsAt h b with | some l => fzD (sub o n l) | none => none)
  | .z false l n _ => bif Nat.beq l.length n then fzD (some l) else none
  | .b x => some (.b x)
  | .i k n => some (.i k n)
  | .s l => some (.s l)
  | .g n => some (.g n)
  | .ni => some .ni
  | _ => none
def mapO (f : AV → Option AV) (l : List AV) : Option (List AV) := List.rec (some []) (fun x _ ih => match f x, ih with | some y, some r => some (y :: r) | _, _ => none) l
def fz1 (h : Tr Blk) (v : AV) : Option AV := match v with | .a l => (match mapO (fz0 h) l with | some r => some (.a r) | none => none) | v => fz0 h v
def fz2 (h : Tr Blk) (v : AV) : Option AV := match v with | .t l => (match mapO (fz1 h) l with | some r => some (.t r) | none => none) | v => fz1 h v
theorem dgs_ok : ∀ {l : List AV} {ds : List Nat}, dgs l = some ds → l = ds.map dg ∧ Small ds
  | [], ds, h => by cases h; exact ⟨rfl, fun d hd => by cases hd⟩
  | x :: l, ds, h => by
    cases x with
    | i k n =>
      cases k with
      | u32 =>
        cases n with
        | ofNat d =>
          have h' : (bif Nat.blt d 4294967296 then (match dgs l with | some r => some (d :: r) | none => none) else none) = some ds := h
          cases hd : Nat.blt d 4294967296 with
          | false => rw [hd] at h'; cases h'
          | true =>
            rw [hd, cond_true] at h'
            split at h'
            · rename_i r hr
              cases h'
              obtain ⟨rfl, h2⟩ := dgs_ok hr
              rw [Nat.blt_eq] at hd
              refine ⟨rfl, fun y hy => ?_⟩
              rcases List.mem_cons.1 hy with rfl | hy
              · exact hd
              · exact h2 y hy
            · cases h'
        | negSucc d => cases h
      | _ => cases h
    | _ => cases h
theorem topOk_ok : ∀ {l : List Nat}, topOk l = true → ∀ d, l.getLast? = some d → d ≠ 0
  | [], _, d, h => by cases h
  | [x], h, d, hd => by
    cases hd
    have h : Bool.not (Nat.beq x 0) = true := h
    rintro rfl; cases h
  | x :: y :: t, h, d, hd => topOk_ok (l := y :: t) h d (by rw [List.getLast?_cons_cons] at hd; exact hd)
theorem fzD_ok {q : Option (List AV)} {r : AV} (h : fzD q = some r) : ∃ ds, q = some (ds.map dg) ∧ Can ds ∧ r = .g (valD ds) := by
  unfold fzD at h
  split at h
  · split at h
    · rename_i q ds hd
      cases ht : topOk ds with
      | false => rw [ht] at h; cases h
      | true =>
        rw [ht] at h; cases h
        obtain ⟨rfl, h2⟩ := dgs_ok hd
        exact ⟨ds, rfl, ⟨h2, topOk_ok ht⟩, rfl⟩
    · cases h
  · cases h
theorem fz0_ok {h : Tr Blk} {v r : AV} (hf : fz0 h v = some r) : Fz false h v r := by
  unfold fz0 at hf
  split at hf
  · cases hf; exact .ng
  · rename_i b o n c
    split at hf
    · rename_i l hl
      obtain ⟨gr, hb⟩ := cellsAt_some hl
      obtain ⟨ds, h1, h2, rfl⟩ := fzD_ok hf
      have hn : ds.length = n := by
        rcases sub_eq h1 with ⟨_, h3, _⟩ | ⟨h3, h4⟩
        · simpa using h3
        · have : ds = [] := by cases ds with | nil => rfl | cons x t => cases h4
          rw [this, h3]; rfl
      subst hn
      exact .g _ ds false rfl (.sl b o _ c 1 gr l _ _ hb (by rw [Nat.mul_one]; exact h1) (Fz.digs _ _ ds)) h2.small h2.last
    · cases hf
  · rename_i l n x
    cases hl : Nat.beq l.length n with
    | false => rw [hl] at hf; cases hf
    | true =>
      rw [hl, cond_true] at hf
      have := Nat.eq_of_beq_eq_true hl
      subst this
      obtain ⟨ds, h1, h2, rfl⟩ := fzD_ok hf
      cases h1
      exact .g _ ds x rfl (by rw [List.length_map]; exact .same _ (pu_digs false ds)) h2.small h2.last
  all_goals first | (cases hf; exact .same _ rfl) | cases hf
theorem mapO_ok {h : Tr Blk} {f : AV → Option AV} (hf : ∀ v r, f v = some r → Fz false h v r) : ∀ {l r : List AV}, mapO f l = some r → FzL false h l r
  | [], r, hm => by cases hm; exact .nil
  | x :: l, r, hm => by
    have hm : (match f x, mapO f l with | some y, some r => some (y :: r) | _, _ => none) = some r := hm
    split at hm
    · rename_i y r' h1 h2
      cases hm
      exact .cons (hf _ _ h1) (mapO_ok hf h2)
    · cases hm
theorem fz1_ok {h : Tr Blk} {v r : AV} (hf : fz1 h v = some r) : Fz false h v r := by
  unfold fz1 at hf
  split at hf
  · split at hf
    · rename_i h1; cases hf; exact .a _ _ (mapO_ok (fun v r => fz0_ok) h1)
    · cases hf
  · exact fz0_ok hf
theorem fz2_ok {h : Tr Blk} {v r : AV} (hf : fz2 h v = some r) : Fz false h v r := by
  unfold fz2 at hf
  split at hf
  · split at hf
    · rename_i h1; cases hf; exact .t _ _ (mapO_ok (fun v r => fz1_ok) h1)
    · cases hf
  · exact fz1_ok hf
def zof (v : AV) : Option ZI := match v with | .a [.b s, .g m] => some ⟨s, m⟩ | .a [.b s, .ns] => some ⟨s, 0⟩ | _ => none
theorem zof_ok {h : Tr Blk} {v : AV} {a : ZI} (hz : zof v = some a) : Fz true h v (zv a) := by
  unfold zof at hz
  split at hz
  · cases hz; exact .same _ rfl
  · cases hz; exact .a _ _ (.cons (.same _ rfl) (.cons .ng .nil))
  · cases hz
inductive AllOk (P : Program) : List (Nat × Fn) → Prop
  | nil : AllOk P []
  | cons {k : Nat} {f : Fn} {l : List (Nat × Fn)} (h : FnOk P k f) (t : AllOk P l) : AllOk P ((k, f) :: l)
inductive AllOrc (P : Program) (L : LoopOk) : List (Nat × (List AV → Tr Blk → Pos → Res)) → Prop
  | nil : AllOrc P L []
  | cons {k : Nat} {f : List AV → Tr Blk → Pos → Res} {l : List (Nat × (List AV → Tr Blk → Pos → Res))} (h : OrcOk P L k f) (t : AllOrc P L l) : AllOrc P L ((k, f) :: l)
def mkTab {α : Type} (l : List (Nat × α)) : Tr α := List.rec .lf (fun x _ ih => ih.set (pos x.1) x.2) l
theorem mkTab_get {α : Type} : ∀ {l : List (Nat × α)} {k : Nat} {x : α}, (mkTab l).get (pos k) = some x → (k, x) ∈ l
  | [], k, x, h => by rw [show mkTab ([] : List (Nat × α)) = .lf from rfl, Tr.get_lf] at h; cases h
  | (j, y) :: l, k, x, h => by
    have h : ((mkTab l).set (pos j) y).get (pos k) = some x := h
    by_cases hj : j = k
    · subst hj; rw [Tr.get_set_same] at h; cases h; simp
    · rw [Tr.get_set_other _ _ (fun e => hj (pos_inj e))] at h; simp [mkTab_get h]
theorem AllOk.mem {P : Program} {l : List (Nat × Fn)} (h : AllOk P l) : ∀ {k : Nat} {f : Fn}, (k, f) ∈ l → FnOk P k f := by
  induction h with
  | nil => intro k f hm; cases hm
  | cons h1 _ ih =>
    intro k f hm
    rcases List.mem_cons.1 hm with h | h
    · cases h; exact h1
    · exact ih h
theorem AllOrc.mem {P : Program} {L : LoopOk} {l : List (Nat × (List AV → Tr Blk → Pos → Res))} (h : AllOrc P L l) : ∀ {k : Nat} {f : List AV → Tr Blk → Pos → Res}, (k, f) ∈ l → OrcOk P L k f := by
  induction h with
  | nil => intro k f hm; cases hm
  | cons h1 _ ih =>
    intro k f hm
    rcases List.mem_cons.1 hm with h | h
    · cases h; exact h1
    · exact ih h
theorem ctx_ok {P : Program} {L : LoopOk} {fns : Tr Fn} {orc : Tr (List AV → Tr Blk → Pos → Res)} {l : List (Nat × Fn)} {m : List (Nat × (List AV → Tr Blk → Pos → Res))} (h1 : fns = mkTab l) (h2 : orc = mkTab m) (h3 : AllOk P l) (h4 : AllOrc P L m) : CtxOk P L ⟨fns, orc⟩ :=
  ⟨fun f fn' h => h3.mem (mkTab_get (by rw [← h1]; exact h)), fun f g h => h4.mem (mkTab_get (by rw [← h2]; exact h))⟩
end
end Go.AR
namespace Go.Proofs
open Go.Shelf Go.RowKit Go.Lib
def notDigit (r : Nat) : Bool := decide (r < 48) || decide (57 < r)
theorem Tryz.isNotDigit (w : World) : PredAt Tryz.prog 157 #[] encR notDigit w := fun W r _ => by
  unfold FnGives
  by_cases h1 : r < 48 <;> by_cases h2 : 57 < r
  all_goals
    have z1 : (r : Int) < 48 ↔ r < 48 := by omega
    have z2 : (57 : Int) < (r : Int) ↔ 57 < r := by omega
    go_enter Tryz.func157, Tryz.ntmps157
    go_wp2
    all_goals first | (exfalso; omega) | (go_ret; exact ⟨by simp [notDigit, h1, h2], 0, rfl⟩)
end Go.Proofs
namespace Go.AR
open Go.Proofs Go.RowKit Go.Shelf
noncomputable section
def orcContains (vs : List AV) (h : Tr Blk) (nx : Pos) : Res :=
  match vs with
  | [.s s, .f f []] => bif Pos.beq f (pos 157) then .ok (.b (decide (0 ≤ Lib.idxFunc notDigit true (bytesOf s)))) h nx else .bad
  | _ => .bad
theorem orcContains_ok {Z : Nat → Option Obj} : OrcOk Tryz.prog (LOk Tryz.prog Z) 156 orcContains := by
  refine ⟨⟨_, _, Tryz.func156, by kernel_rfl, rfl⟩, ?_⟩
  intro Γ h nx w vs args v h' nx' hr hv hx
  unfold orcContains at hx
  split at hx
  · rename_i s f
    cases hs : Pos.beq f (pos 157) with
    | false => rw [hs] at hx; cases hx
    | true =>
      rw [hs] at hx
      cases hx
      have hf := Pos.beq_eq hs
      subst hf
      obtain ⟨a, b, e, h1, h2⟩ := hv.inv2
      obtain ⟨rfl, _⟩ := h1.s_inv
      obtain ⟨n, vs, h3, rfl, h4⟩ := h2.f_inv
      have hn : n = 157 := (pos_inj h3).symm
      subst hn
      have h5 := h4.inv0
      have h6 : vs = #[] := by rw [args_eq h5]
      subst h6
      rw [args_eq e]
      have := Any.strings_ContainsFunc Tryz.lContains 157 #[] (enters_of Tryz.func157 (by kernel_rfl) rfl) notDigit (bytesOf s) w (Tryz.isNotDigit w)
      refine (show Calls Tryz.prog 156 _ w _ from this).mono ?_
      rintro e w' ⟨rfl, hb⟩
      exact ⟨_, rfl, Γ, below_St hr hb, .b _⟩
  · cases hx
def orcParse (vs : List AV) (h : Tr Blk) (nx : Pos) : Res :=
  match vs with
  | [.s s, .i .i64 (.ofNat b), .i .i64 (.ofNat c)] => bif (Nat.beq b 10 && Nat.beq c 32) && Nat.blt s.length 1000000 then
      (match Lib.parseUintB 32 (s.map UInt8.ofNat) with | .ok u => .ok (.t [.i .u64 (.ofNat u), .ni]) h nx | _ => .bad) else .bad
  | _ => .bad
theorem orcParse_ok {Z : Nat → Option Obj} : OrcOk Tryz.prog (LOk Tryz.prog Z) 158 orcParse := by
  refine ⟨⟨_, _, Tryz.func158, by kernel_rfl, rfl⟩, ?_⟩
  intro Γ h nx w vs args v h' nx' hr hv hx
  unfold orcParse at hx
  split at hx
  · rename_i s b c
    cases hs : ((Nat.beq b 10 && Nat.beq c 32) && Nat.blt s.length 1000000) with
    | false => rw [hs] at hx; cases hx
    | true =>
      rw [hs, cond_true] at hx
      simp only [Bool.and_eq_true, Nat.blt_eq] at hs
      obtain ⟨⟨hb, hc⟩, hl⟩ := hs
      have hb := Nat.eq_of_beq_eq_true hb
      have hc := Nat.eq_of_beq_eq_true hc
      subst hb; subst hc
      split at hx
      · rename_i u hu
        cases hx
        obtain ⟨a, b, c, e, h1, h2, h3⟩ := hv.inv3
        obtain ⟨rfl, _⟩ := h1.s_inv
        cases h2.i_inv; cases h3.i_inv
        rw [args_eq e]
        have := Any.strconv_ParseUint_10_at32_ok Tryz.lParse (bytesOf s) (by rw [bytes_size]; omega) u (by rw [bytes_data]; exact hu) w
        refine (show Calls Tryz.prog 158 _ w _ from this).mono ?_
        rintro e w' ⟨rfl, hw⟩
        have hbw : Below w.heap.size w w' := by
          rcases hw with rfl | rfl
          · exact Below.refl _ _
          · exact below_bytes _ _
        exact ⟨_, rfl, Γ, below_St hr hbw, .t _ _ (.cons (.i _ _) (.cons .ni .nil))⟩
      · cases hx
  · cases hx
def orcZeros (vs : List AV) (h : Tr Blk) (nx : Pos) : Res :=
  match vs with
  | [.i .u64 (.ofNat n)] => bif Nat.blt n 18446744073709551616 then .ok (.i .i64 (.ofNat (Lib.ctz 64 n))) h nx else .bad
  | _ => .bad
theorem orcZeros_ok {Z : Nat → Option Obj} (hZ : ZOk Z) : OrcOk Tryz.prog (LOk Tryz.prog Z) 263 orcZeros := by
  refine ⟨⟨_, _, Tryz.func263, by kernel_rfl, rfl⟩, ?_⟩
  intro Γ h nx w vs args v h' nx' hr hv hx
  unfold orcZeros at hx
  split at hx
  · rename_i n
    cases hs : Nat.blt n 18446744073709551616 with
    | false => rw [hs] at hx; cases hx
    | true =>
      rw [hs] at hx
      cases hx
      rw [Nat.blt_eq] at hs
      obtain ⟨a, e, h1⟩ := hv.inv1
      cases h1.i_inv
      rw [args_eq e]
      obtain ⟨C, t, hz, hc⟩ := hZ.zeros
      have := Any7.bits_TrailingZeros64 Tryz.lZeros n hs w (fun _ j hj => cell_heap (base_heap hr hz) (hc j hj))
      refine (show Calls Tryz.prog 263 _ w _ from this).mono ?_
      rintro e w' ⟨rfl, rfl⟩
      exact ⟨_, rfl, Γ, St.refl hr, .i _ _⟩
  · cases hx
theorem Tryz.extraJ : Builder.Extra Tryz.prog Tryz.lJoin_ren where
  sizeBuilder := by kernel_rfl
  liesBuilder := by kernel_rfl
  t5 := Tryz.lRepeat.t5
  a5 := Tryz.lRepeat.a5
  z5 := Tryz.lRepeat.z5
  v5 := Tryz.lRepeat.v5
  infoByte := by kernel_rfl
  cellsByte := by kernel_rfl
  sizeByte := by kernel_rfl
  neB5 := by decide
def strsOf (l : List AV) : Option (List (List Nat)) :=
  List.rec (some []) (fun x _ ih => match x with | .s q => (match ih with | some r => some (q :: r) | none => none) | _ => none) l
def joinN (p : List Nat) (l : List (List Nat)) : List Nat :=
  List.rec [] (fun x t ih => List.casesOn t x (fun _ _ => x ++ (p ++ ih))) l
def orcJoin (vs : List AV) (h : Tr Blk) (nx : Pos) : Res :=
  match vs with
  | [x, .s p] => (match slen x, rowOf 1 h x with
    | some n, some l => (match strsOf l with | some r => bif Nat.blt (joinN p r).length 1000000 && Nat.blt 0 n && Nat.blt n 1000000 then .ok (.s (joinN p r)) h nx else .bad | none => .bad)
    | _, _ => .bad)
  | _ => .bad
theorem strsOf_vals {Γ : G} : ∀ {l : List AV} {r : List (List Nat)} {q : List Value}, strsOf l = some r → VL Γ l q → q = r.map (fun x => .string (bytesOf x)) ∧ ∀ x ∈ r, ∀ y ∈ x, y < 256
  | [], r, q, h, hv => by cases h; cases hv; exact ⟨rfl, fun x hx => by cases hx⟩
  | x :: l, r, q, h, hv => by
    cases x with
    | s s =>
      have h : (match strsOf l with | some r => some (s :: r) | none => none) = some r := h
      cases hv with
      | cons h1 h2 =>
        split at h
        · rename_i t ht
          cases h
          obtain ⟨rfl, h4⟩ := h1.s_inv
          obtain ⟨rfl, h5⟩ := strsOf_vals ht h2
          refine ⟨rfl, fun x hx => ?_⟩
          rcases List.mem_cons.1 hx with rfl | hx
          · exact h4
          · exact h5 x hx
        · cases h
    | _ => cases h
theorem joinN_map (p : List Nat) : ∀ (l : List (List Nat)), (joinN p l).map UInt8.ofNat = Lib.join (l.map fun x => x.map UInt8.ofNat) (p.map UInt8.ofNat)
  | [] => rfl
  | [x] => by
    show x.map UInt8.ofNat = _
    simp [Lib.join]
  | x :: y :: t => by
    show (x ++ (p ++ joinN p (y :: t))).map UInt8.ofNat = _
    rw [List.map_append, List.map_append, joinN_map p (y :: t)]
    simp [Lib.join]
theorem joinN_lt {p : List Nat} (hp : ∀ y ∈ p, y < 256) : ∀ (l : List (List Nat)), (∀ x ∈ l, ∀ y ∈ x, y < 256) → ∀ y ∈ joinN p l, y < 256
  | [], _, y, hy => by cases hy
  | [x], h, y, hy => h x (by simp) y hy
  | x :: z :: t, h, y, hy => by
    rcases List.mem_append.1 (show y ∈ x ++ (p ++ joinN p (z :: t)) from hy) with hy | hy
    · exact h x (by simp) y hy
    · rcases List.mem_append.1 hy with hy | hy
      · exact hp y hy
      · exact joinN_lt hp (z :: t) (fun a ha => h a (by simp [ha])) y hy
theorem orcJoin_ok {Z : Nat → Option Obj} : OrcOk Tryz.prog (LOk Tryz.prog Z) 126 orcJoin := by
  refine ⟨⟨_, _, Tryz.func126, by kernel_rfl, rfl⟩, ?_⟩
  intro Γ h nx w vs args v h' nx' hr hv hx
  unfold orcJoin at hx
  split at hx
  · rename_i x p
    split at hx
    · rename_i n l hn hl
      split at hx
      · rename_i r hq
        cases hs : (Nat.blt (joinN p r).length 1000000 && Nat.blt 0 n && Nat.blt n 1000000) with
        | false => rw [hs] at hx; cases hx
        | true =>
          rw [hs] at hx
          cases hx
          simp only [Bool.and_eq_true, Nat.blt_eq] at hs
          obtain ⟨⟨hs1, hs2⟩, hs3⟩ := hs
          obtain ⟨a, b, e, h1, h2⟩ := hv.inv2
          obtain ⟨rfl, hp⟩ := h2.s_inv
          rw [args_eq e]
          obtain ⟨bk, o, c, q, rfl, hnc, hvq, hlq, hcell⟩ : ∃ bk o c q, a = .slice (some ⟨bk, o, none⟩) n c ∧ n ≤ c ∧ VL Γ l q ∧ q.length = n ∧ ∀ (j : Nat) (y : Value), q[j]? = some y → w.cell? ⟨bk, o + j, none⟩ = some y := by
            rcases row_cells hr h1 hn hl with ⟨_, _, h0, _⟩ | ⟨b, off, c, e, c', q, _, _, rfl, h3, h4, _, _, h5, h6, h7⟩ | ⟨k, _, xx, ad, cap, q, _, rfl, h3, _, _, h5, h6, h7⟩
            · omega
            · exact ⟨_, _, c', q, rfl, by omega, h5, by omega, h7⟩
            · have h6' : q.length = n := by omega
              have h0 : q[0]? = some (q[0]'(by omega)) := List.getElem?_eq_getElem (by omega)
              obtain ⟨rb, off, rfl, _⟩ := h7 0 _ h0
              refine ⟨rb, off, cap, q, rfl, h3, h5, h6', fun j y hy => ?_⟩
              obtain ⟨rb', off', e', h8⟩ := h7 j y hy
              cases e'; exact h8
          obtain ⟨rfl, hr256⟩ := strsOf_vals hq hvq
          rw [List.length_map] at hlq
          have hbk : bk < w.heap.size := by
            have h0 : (r.map fun x => Value.string (bytesOf x))[0]? = some ((r.map fun x => Value.string (bytesOf x))[0]'(by rw [List.length_map]; omega)) := List.getElem?_eq_getElem (by rw [List.length_map]; omega)
            have := hcell 0 _ h0
            unfold World.cell? at this
            cases hw : w.heap[bk]? with
            | none => simp [hw] at this
            | some o => exact lt_of_heap hw
          have hm : (r.map bytesOf).map (fun x => x.data.toList) = r.map fun x => x.map UInt8.ofNat := by
            rw [List.map_map]; apply List.map_congr_left; intro x _; exact bytes_data x
          have := Any.strings_Join Tryz.lJoin Tryz.extraJ bk o c (r.map bytesOf) (bytesOf p) w
            (fun j x hj => by
              rw [List.getElem?_map] at hj
              cases hr' : r[j]? with
              | none => rw [hr'] at hj; cases hj
              | some z => rw [hr'] at hj; cases hj; exact hcell j _ (by rw [List.getElem?_map, hr']; rfl))
            hbk (by rw [List.length_map]; omega) (by rw [List.length_map]; omega)
            (by rw [hm, bytes_data, ← joinN_map, List.length_map]; omega)
          rw [List.length_map, hlq, hm, bytes_data, ← joinN_map] at this
          refine (show Calls Tryz.prog 126 _ w _ from this).mono ?_
          rintro e w' ⟨rfl, hb⟩
          exact ⟨_, rfl, Γ, below_St hr hb, .s _ (joinN_lt hp r hr256)⟩
      · cases hx
    · cases hx
  · cases hx
end
end Go.AR
namespace Go.AR
def maskOf (acc : List Nat) (o : Oper) : Nat := o.after.toList.foldl (fun s e => bif Region.binds .any e then s ||| 2 ^ e.on ||| acc.getD e.on 0 else s) 0
def predsL : List Oper → List Nat → List Nat
  | [], acc => acc
  | o :: l, acc => predsL l (acc ++ [maskOf acc o])
theorem foldl_mask (acc : List Nat) (j : Nat) : ∀ (l : List Edge) (s : Nat), (l.foldl (fun s e => bif Region.binds .any e then s ||| 2 ^ e.on ||| acc.getD e.on 0 else s) s).testBit j = true →
    s.testBit j = true ∨ ∃ e ∈ l, Region.binds .any e = true ∧ (j = e.on ∨ (acc.getD e.on 0).testBit j = true)
  | [], s, h => .inl h
  | e :: l, s, h => by
    rcases foldl_mask acc j l _ h with h1 | ⟨e', h1, h2⟩
    · dsimp only at h1
      cases hb : Region.binds .any e with
      | false => rw [hb] at h1; exact .inl h1
      | true =>
        rw [hb] at h1
        simp only [cond_true, Nat.testBit_or, Nat.testBit_two_pow, Bool.or_eq_true, decide_eq_true_eq] at h1
        rcases h1 with (h1 | h1) | h1
        · exact .inl h1
        · exact .inr ⟨e, by simp, hb, .inl h1.symm⟩
        · exact .inr ⟨e, by simp, hb, .inr h1⟩
    · exact .inr ⟨e', by simp [h1], h2⟩
theorem predsL_before {ops : Array Oper} : ∀ (l : List Oper) (acc : List Nat), ops.toList.drop acc.length = l → (∀ i j, (acc.getD i 0).testBit j = true → Before ops j i) → ∀ i j, ((predsL l acc).getD i 0).testBit j = true → Before ops j i
  | [], acc, _, h => h
  | o :: l, acc, hd, h => by
    refine predsL_before l (acc ++ [maskOf acc o]) ?_ ?_
    · rw [List.length_append, ← List.drop_drop, hd]; rfl
    · intro i j hb
      have ho : ops[acc.length]? = some o := by
        rw [← Array.getElem?_toList]
        have := congrArg (fun q => q[0]?) hd
        simpa using this
      rw [List.getD_eq_getElem?_getD] at hb
      rcases Nat.lt_trichotomy i acc.length with hi | hi | hi
      · rw [List.getElem?_append_left hi, ← List.getD_eq_getElem?_getD] at hb; exact h i j hb
      · subst hi
        rw [List.getElem?_append_right (Nat.le_refl _)] at hb
        simp only [Nat.sub_self, List.getElem?_cons_zero, Option.getD_some] at hb
        rcases foldl_mask acc j _ _ hb with h1 | ⟨e, h1, h2, h3⟩
        · simp at h1
        · have he : e ∈ o.after := Array.mem_toList_iff.1 h1
          rcases h3 with rfl | h3
          · exact .edge ho he h2
          · exact .trans ho he h2 (h _ _ h3)
      · rw [List.getElem?_eq_none (by simp; omega)] at hb; simp at hb
end Go.AR
namespace Go.AR
noncomputable section
def ekB : EK → EK → Bool | .i, .i => true | .b, .b => true | .s, .s => true | .l, .l => true | _, _ => false
theorem ekB_ok {a b : EK} (h : ekB a b = true) : a = b := by cases a <;> cases b <;> first | rfl | cases h
def isT (p : Pos) : X → Bool | .t q => Pos.beq q p | .c _ => false
def rdB (o : Op) (p : Pos) : Bool := (o.asx.any (isT p)) || (match o.g with | some (q, _) => Pos.beq q p | none => false)
def freeOf (o : Op) (d : Option Pos) : Bool := match d with | some p => !rdB o p | none => true
def clash (d e : Option Pos) : Bool := match d, e with | some p, some q => Pos.beq p q | _, _ => false
theorem isT_beq {p : Pos} {x : X} (h : x = .t p) : isT p x = true := by subst h; exact Pos.beq_self p
theorem rdB_reads {o : Op} {p : Pos} (h : reads o p) : rdB o p = true := by
  unfold rdB
  rcases h with h | ⟨b, h⟩
  · rw [Bool.or_eq_true]; left; exact List.any_eq_true.2 ⟨_, h, isT_beq rfl⟩
  · rw [h]; simp [Pos.beq_self]
theorem freeOf_ok {o : Op} {d : Option Pos} (h : freeOf o d = true) (p : Pos) (hd : d = some p) : ¬ reads o p := by
  subst hd; intro hr
  simp [freeOf, rdB_reads hr] at h
theorem clash_ok {d e : Option Pos} (h : clash d e = false) (p : Pos) (hd : d = some p) : e ≠ some p := by
  subst hd; rintro rfl
  simp [clash, Pos.beq_self] at h
def pairwiseB {α : Type} (f : α → α → Bool) : List α → Bool | [] => true | x :: l => l.all (f x) && pairwiseB f l
theorem pairwise_eq {α : Type} {f : α → α → Bool} {Q : α → α → Prop} (hs : ∀ x y, Q x y → Q y x) (hf : ∀ x y, Q x y → f x y = false) : ∀ {l : List α}, pairwiseB f l = true → ∀ x ∈ l, ∀ y ∈ l, Q x y → x = y
  | [], _, x, hx => by cases hx
  | a :: l, h, x, hx => by
    intro y hy hq
    simp only [pairwiseB, Bool.and_eq_true, List.all_eq_true] at h
    cases hx with
    | head =>
      cases hy with
      | head => rfl
      | tail _ hy => have := h.1 y hy; rw [hf _ _ hq] at this; cases this
    | tail _ hx =>
      cases hy with
      | head => have := h.1 x hx; rw [hf _ _ (hs _ _ hq)] at this; cases this
      | tail _ hy => exact pairwise_eq hs hf h.2 x hx y hy hq
def mkKV (cs : List Op) (d : Pos) (m : Nat) (e : EK) : List Nat → Option (List (X × X))
  | [] => some []
  | j :: js => match cs[j]? with
    | some ⟨none, none, .ins m' e', [.t d', k, v]⟩ => bif Pos.beq d' d && Nat.beq m' m && ekB e' e && !isT d k && !isT d v then (match mkKV cs d m e js with | some r => some ((k, v) :: r) | none => none) else none
    | _ => none
def insOf (cs : List Op) (j : Nat) : Option (Nat × EK) := match cs[j]? with | some ⟨none, none, .ins m e, _⟩ => some (m, e) | _ => none
def nodB : List Nat → Bool | [] => true | x :: l => l.all (fun y => !Nat.beq x y) && nodB l
def mkIt (cs : List Op) (q : Nat × List Nat) : Option It :=
  match cs[q.1]?, q.2 with
  | some o, [] => bif stillC o.c || (newC o.c && o.d.isSome) then some ⟨q.1, [], o, false⟩ else none
  | some ⟨some d, none, .mkmap, []⟩, j :: js => (match insOf cs j with
    | some (m, e) => (match mkKV cs d m e (j :: js) with
      | some kvs => bif nodB (q.1 :: j :: js) then some ⟨q.1, j :: js, ⟨some d, none, .mapl m e, kvs.flatMap fun kv => [kv.1, kv.2]⟩, false⟩ else none
      | none => none)
    | none => none)
  | _, _ => none
def mkH (cs : List Op) : Option Nat → Option (Option It)
  | none => some none
  | some i => match cs[i]? with | some o => some (some ⟨i, [], o, true⟩) | none => none
theorem nodB_ok : ∀ {l : List Nat}, nodB l = true → l.Nodup
  | [], _ => .nil
  | x :: l, h => by
    simp only [nodB, Bool.and_eq_true, List.all_eq_true, Bool.not_eq_true'] at h
    exact List.nodup_cons.2 ⟨(fun hx => by have := h.1 x hx; rw [Nat.beq_refl] at this; cases this), nodB_ok h.2⟩
theorem mkKV_ok {cs : List Op} {d : Pos} {m : Nat} {e : EK} : ∀ {js : List Nat} {kvs : List (X × X)}, mkKV cs d m e js = some kvs →
    kvs.length = js.length ∧ (∀ (q j : Nat) (kv : X × X), js[q]? = some j → kvs[q]? = some kv → cs[j]? = some (⟨none, none, .ins m e, [.t d, kv.1, kv.2]⟩ : Op)) ∧ (∀ kv ∈ kvs, kv.1 ≠ X.t d ∧ kv.2 ≠ X.t d)
  | [], kvs, h => by cases h; exact ⟨rfl, (fun q j kv h => by simp at h), (fun kv h => by cases h)⟩
  | j :: js, kvs, h => by
    unfold mkKV at h
    split at h
    · rename_i m' e' d' k v hj
      rw [Bool.cond_eq_ite] at h
      split at h
      · rename_i hc
        simp only [Bool.and_eq_true, Bool.not_eq_true'] at hc
        obtain ⟨⟨⟨⟨h1, h2⟩, h3⟩, h4⟩, h5⟩ := hc
        have h1 := Pos.beq_eq h1
        have h2 := Nat.eq_of_beq_eq_true h2
        have h3 := ekB_ok h3
        subst h1; subst h2; subst h3
        split at h
        · rename_i r hr
          cases h
          obtain ⟨g1, g2, g3⟩ := mkKV_ok hr
          refine ⟨by simp [g1], ?_, ?_⟩
          · intro q i kv hq hkv
            cases q with
            | zero => simp at hq hkv; subst hq; subst hkv; exact hj
            | succ q => simp at hq hkv; exact g2 q i kv hq hkv
          · intro kv hkv
            cases hkv with
            | head => exact ⟨fun h => (by rw [isT_beq h] at h4; cases h4), fun h => (by rw [isT_beq h] at h5; cases h5)⟩
            | tail _ hkv => exact g3 kv hkv
        · cases h
      · cases h
    · cases h
theorem mkIt_ok {cs : List Op} {q : Nat × List Nat} {x : It} (h : mkIt cs q = some x) : ItOk cs x := by
  unfold mkIt at h
  split at h
  · rename_i o hq hj
    rw [Bool.cond_eq_ite] at h
    split at h
    · rename_i hc
      cases h
      refine .one _ _ hq ?_
      simp only [Bool.or_eq_true, Bool.and_eq_true, Option.isSome_iff_exists] at hc
      exact hc
    · cases h
  · rename_i d j js hq hj
    split at h
    · rename_i m e hm
      split at h
      · rename_i kvs hk
        rw [Bool.cond_eq_ite] at h
        split at h
        · rename_i hn
          cases h
          obtain ⟨g1, g2, g3⟩ := mkKV_ok hk
          exact .lit _ _ _ _ _ _ hq g1 g2 g3 (nodB_ok hn) (by simp)
        · cases h
      · cases h
    · cases h
  · cases h
theorem mkH_ok {cs : List Op} {i : Option Nat} {H : Option It} (h : mkH cs i = some H) : ∀ x, H = some x → x.js = [] ∧ cs[x.i]? = some x.o := by
  intro x hx
  subst hx
  cases i with
  | none => cases h
  | some i =>
    have h : (match cs[i]? with | some o => some (some (⟨i, [], o, true⟩ : It)) | none => none) = some (some x) := h
    cases ho : cs[i]? with
    | none => rw [ho] at h; cases h
    | some o => rw [ho] at h; cases h; exact ⟨rfl, ho⟩
abbrev Plan := List (List (Nat × List Nat) × Option Nat)
abbrev RawSt := List It × Option It
def mkRaw (cs : List Op) : Plan → Option (List RawSt)
  | [] => some []
  | (l, i) :: p => match allO (mkIt cs) l, mkH cs i, mkRaw cs p with | some l, some H, some r => some ((l, H) :: r) | _, _, _ => none
def rawItems : List RawSt → List It
  | [] => []
  | (l, H) :: r => l ++ H.toList ++ rawItems r
def hasBit (pr : List Nat) (i j : Nat) : Bool := Nat.testBit (pr.getD i 0) j
def maskL (l : List Nat) : Nat := l.foldr (fun i s => 2 ^ i ||| s) 0
def maskI (l : List It) : Nat := l.foldr (fun x s => maskL x.idx ||| s) 0
def lateL (pr : List Nat) (E Hd : List It) : List It := E.filter fun x => readC x.o.c && !(Hd.any fun y => hasBit pr y.i x.i)
def mkSt (pr : List Nat) : List It → List It → List RawSt → List Stg
  | _, _, [] => []
  | E, Hd, (l, H) :: r => (l, lateL pr (E ++ l) Hd, H) :: mkSt pr (E ++ l) (Hd ++ H.toList) r
def guardFree (g : Option (Pos × Bool)) (d : Option Pos) : Bool := match g, d with | some (q, _), some p => !Pos.beq q p | _, _ => true
theorem guardFree_ok {g : Option (Pos × Bool)} {d : Option Pos} (h : guardFree g d = true) (p : Pos) (hd : d = some p) (q : Bool) : g ≠ some (p, q) := by
  subst hd; rintro rfl
  simp [guardFree, Pos.beq_self] at h
def chainB : List It → List It → Bool
  | _, [] => true
  | E, x :: l => E.all (fun y => freeOf y.o x.o.d) && chainB (E ++ [x]) l
def goodB (N : Nat) (pr : List Nat) : List It → List It → List RawSt → Bool
  | _, _, [] => false
  | E, Hd, (l, none) :: r => chainB E l && r.isEmpty && Nat.beq (maskI (E ++ l ++ Hd)) (2 ^ N - 1)
  | E, Hd, (l, some H) :: r => chainB E l && (E ++ l).all (fun y => guardFree y.o.g H.o.d && (freeOf y.o H.o.d || y.idx.all (fun j => hasBit pr H.i j))) && (let M := maskI (E ++ l ++ Hd) ||| 2 ^ H.i; (List.range N).all fun i => Nat.testBit M i || hasBit pr i H.i) && goodB N pr (E ++ l) (Hd ++ [H]) r
def ownB (pr : List Nat) (i : Nat) (o : Op) (y : It) : Bool :=
  freeOf o y.o.d || y.idx.all (fun j => hasBit pr i j) || (y.js.any (Nat.beq i) && hasBit pr i y.i) || (y.hv && hasBit pr y.i i)
def rdAllB (pr : List Nat) (All : List It) : List Op → Nat → Bool
  | [], _ => true
  | o :: l, i => All.all (ownB pr i o) && rdAllB pr All l (i + 1)
def backB : List Oper → Nat → Bool
  | [], _ => true
  | o :: l, i => o.after.toList.all (fun e => !Region.binds .any e || Nat.blt e.on i) && backB l (i + 1)
def statB (N : Nat) (pr : List Nat) (cs : List Op) (All : List It) : Bool :=
  nodB (All.flatMap It.idx) && (All.flatMap It.idx).all (fun i => Nat.blt i N) && pairwiseB (fun x y => !clash x.o.d y.o.d) All && All.all (fun x => freeOf x.o x.o.d) && rdAllB pr All cs 0 &&
    All.all (fun x => x.js.all fun j => hasBit pr j x.i) && All.all (fun x => !newC x.o.c || x.o.d.isSome)
def compD3 (P : Program) (n : Nat) (ops : Array Oper) (pl : Plan) : Option (List Stg) :=
  match compOps P n ops with
  | some cs => (match mkRaw cs pl with
    | some raw => bif backB ops.toList 0 && statB ops.size (predsL ops.toList []) cs (rawItems raw) && goodB ops.size (predsL ops.toList []) [] [] raw then some (mkSt (predsL ops.toList []) [] [] raw) else none
    | none => none)
  | none => none
theorem nodup_flat {l : List It} (h : (l.flatMap It.idx).Nodup) : ∀ x ∈ l, ∀ y ∈ l, ∀ i, i ∈ x.idx → i ∈ y.idx → x = y := by
  induction l with
  | nil => intro x hx; cases hx
  | cons a l ih =>
    rw [List.flatMap_cons, List.nodup_append] at h
    obtain ⟨h1, h2, h3⟩ := h
    intro x hx y hy i hi hj
    cases hx with
    | head =>
      cases hy with
      | head => rfl
      | tail _ hy => exact absurd rfl (h3 i hi i (List.mem_flatMap.2 ⟨y, hy, hj⟩))
    | tail _ hx =>
      cases hy with
      | head => exact absurd rfl (h3 i hj i (List.mem_flatMap.2 ⟨x, hx, hi⟩))
      | tail _ hy => exact ih h2 x hx y hy i hi hj
section
variable {P : Program} {n : Nat} {ops : Array Oper} {cs : List Op} {All : List It} {pr : List Nat}
theorem mkRaw_mem : ∀ {pl : Plan} {raw : List RawSt}, mkRaw cs pl = some raw → ∀ st ∈ raw, (∀ x ∈ st.1, ItOk cs x) ∧ ∀ x, st.2 = some x → x.js = [] ∧ cs[x.i]? = some x.o
  | [], raw, h => by cases h; intro st hst; cases hst
  | (l, i) :: p, raw, h => by
    unfold mkRaw at h
    split at h
    · rename_i l' H r h1 h2 h3
      cases h
      intro st hst
      cases hst with
      | head =>
        refine ⟨fun x hx => ?_, fun x hx => mkH_ok h2 x hx⟩
        obtain ⟨k, hk⟩ := List.getElem?_of_mem hx
        have hl := allO_length h1
        have hlt : k < l.length := by
          rcases Nat.lt_or_ge k l.length with h | h
          · exact h
          · have hk' : l'[k]? = some x := hk
            rw [List.getElem?_eq_none (by omega)] at hk'; cases hk'
        obtain ⟨y, g1, g2⟩ := allO_get h1 k _ (List.getElem?_eq_getElem hlt)
        have hk' : l'[k]? = some x := hk
        rw [hk'] at g1; cases g1
        exact mkIt_ok g2
      | tail _ hst => exact mkRaw_mem h3 st hst
    · cases h
theorem rdAll_ok : ∀ {l : List Op} {i : Nat}, rdAllB pr All l i = true → ∀ (j : Nat) (o : Op), l[j]? = some o → ∀ y ∈ All, ownB pr (i + j) o y = true
  | [], i, _, j, o, h => by simp at h
  | o :: l, i, h, j, o', hj => by
    simp only [rdAllB, Bool.and_eq_true, List.all_eq_true] at h
    intro y hy
    cases j with
    | zero => simp at hj; subst hj; exact h.1 y hy
    | succ j =>
      simp at hj
      have := rdAll_ok h.2 j o' hj y hy
      rw [show i + (j + 1) = i + 1 + j by omega]; exact this
theorem back_ok : ∀ {l : List Oper} {i : Nat}, backB l i = true → ∀ (j : Nat) (o : Oper), l[j]? = some o → ∀ e ∈ o.after, Region.binds .any e = true → e.on < i + j
  | [], i, _, j, o, h => by simp at h
  | o :: l, i, h, j, o', hj => by
    simp only [backB, Bool.and_eq_true, List.all_eq_true] at h
    intro e he hb
    cases j with
    | zero =>
      simp at hj; subst hj
      have := h.1 e (Array.mem_toList_iff.2 he)
      rw [hb] at this
      simpa using blt_lt (by simpa using this)
    | succ j =>
      simp at hj
      have := back_ok h.2 j o' hj e he hb
      omega
theorem preds_ok (i j : Nat) (h : hasBit (predsL ops.toList []) i j = true) : Before ops j i :=
  predsL_before ops.toList [] rfl (fun i j h => by simp at h) i j h
theorem stat_ok (hco : compOps P n ops = some cs) (h : statB ops.size (predsL ops.toList []) cs All = true) : Stat P n ops cs All := by
  simp only [statB, Bool.and_eq_true] at h
  obtain ⟨⟨⟨⟨⟨⟨h1, h2⟩, h3⟩, h4⟩, h5⟩, h6⟩, h7⟩ := h
  rw [List.all_eq_true] at h2 h4 h6 h7
  refine ⟨hco, nodup_flat (nodB_ok h1), ?_, ?_, ?_, ?_, ?_, ?_⟩
  · intro x hx y hy p hp hq
    refine pairwise_eq (Q := fun x y => ∃ p, x.o.d = some p ∧ y.o.d = some p) (fun x y ⟨p, a, b⟩ => ⟨p, b, a⟩) ?_ h3 x hx y hy ⟨p, hp, hq⟩
    rintro x y ⟨p, a, b⟩
    rw [a, b]; simp [clash, Pos.beq_self]
  · intro x hx p hp
    exact freeOf_ok (h4 x hx) p hp
  · intro i o hi p hp y hy hd
    have := rdAll_ok h5 i o hi y hy
    rw [Nat.zero_add] at this
    simp only [ownB, Bool.or_eq_true, Bool.and_eq_true, List.all_eq_true] at this
    rcases this with ((h | h) | ⟨h, h'⟩) | ⟨h, h'⟩
    · exact absurd hp (freeOf_ok h p hd)
    · exact .inl fun j hj => preds_ok _ _ (h j hj)
    · refine .inr (.inl ⟨?_, preds_ok _ _ h'⟩)
      obtain ⟨j, hj, hb⟩ := List.any_eq_true.1 h
      rw [Nat.eq_of_beq_eq_true hb]; exact hj
    · exact .inr (.inr ⟨h, preds_ok _ _ h'⟩)
  · intro x hx j hj
    have := h6 x hx
    rw [List.all_eq_true] at this
    exact preds_ok _ _ (this j hj)
  · intro x hx i hi
    exact blt_lt (h2 i (List.mem_flatMap.2 ⟨x, hx, hi⟩))
  · intro x hx hn
    have := h7 x hx
    rw [hn] at this
    simpa [Option.isSome_iff_exists] using this
theorem maskL_bit {l : List Nat} {i : Nat} (h : (maskL l).testBit i = true) : i ∈ l := by
  induction l with
  | nil => simp [maskL] at h
  | cons a l ih =>
    simp only [maskL, List.foldr_cons, Nat.testBit_or, Nat.testBit_two_pow, Bool.or_eq_true, decide_eq_true_eq] at h
    rcases h with h | h
    · simp [h]
    · exact List.mem_cons_of_mem _ (ih h)
theorem maskI_bit {l : List It} {i : Nat} (h : (maskI l).testBit i = true) : ∃ x ∈ l, i ∈ x.idx := by
  induction l with
  | nil => simp [maskI] at h
  | cons a l ih =>
    simp only [maskI, List.foldr_cons, Nat.testBit_or, Bool.or_eq_true] at h
    rcases h with h | h
    · exact ⟨a, by simp, maskL_bit h⟩
    · obtain ⟨x, h1, h2⟩ := ih h; exact ⟨x, by simp [h1], h2⟩
def Apart2 (E l : List It) : Prop := ∀ y ∈ E, ∀ x ∈ l, y ≠ x
theorem apart_of {E F G' : List It} (h : ((E ++ F ++ G').flatMap It.idx).Nodup) : Apart2 E F := by
  intro y hy x hx e
  subst e
  rw [List.flatMap_append, List.flatMap_append, List.append_assoc, List.nodup_append] at h
  have := h.2.2 y.i (List.mem_flatMap.2 ⟨y, hy, by simp [It.idx]⟩) y.i (by rw [List.mem_append]; left; exact List.mem_flatMap.2 ⟨y, hx, by simp [It.idx]⟩)
  exact this rfl
theorem chain_ok : ∀ {l E : List It}, chainB E l = true → (∀ x ∈ l, x ∈ All ∧ ItOk cs x) → ((E ++ l).flatMap It.idx).Nodup → Chain cs All E l
  | [], E, _, _, _ => trivial
  | x :: l, E, h, hA, hn => by
    simp only [chainB, Bool.and_eq_true, List.all_eq_true] at h
    obtain ⟨h1, h2⟩ := hA x (by simp)
    refine ⟨h1, ?_, h2, ?_, chain_ok h.2 (fun y hy => hA y (by simp [hy])) (by rw [List.append_assoc]; exact hn)⟩
    · intro y hy
      exact apart_of (E := E) (F := [x]) (G' := l) (by rw [List.append_assoc]; exact hn) y hy x (by simp)
    · intro y hy p hp
      exact freeOf_ok (h.1 y hy) p hp
theorem good_ok : ∀ {raw : List RawSt} {E Hd L : List It} {H : Option It}, goodB ops.size (predsL ops.toList []) E Hd ((L, H) :: raw) = true → (∀ st ∈ (L, H) :: raw, (∀ x ∈ st.1, x ∈ All ∧ ItOk cs x) ∧ ∀ x, st.2 = some x → x ∈ All ∧ x.js = [] ∧ cs[x.i]? = some x.o) →
    ((E ++ Hd ++ rawItems ((L, H) :: raw)).flatMap It.idx).Nodup → Chain cs All E L ∧ Good ops cs All (E ++ L) Hd H (mkSt (predsL ops.toList []) (E ++ L) (Hd ++ H.toList) raw)
  | raw, E, Hd, L, none, h, hA, hn => by
    simp only [goodB, Bool.and_eq_true] at h
    obtain ⟨⟨h1, h2⟩, h3⟩ := h
    cases raw with
    | cons _ _ => simp at h2
    | nil =>
      have hperm : ((E ++ L ++ Hd).flatMap It.idx).Nodup := by
        have : ((E ++ Hd ++ L).flatMap It.idx).Nodup := by simpa [rawItems] using hn
        refine (List.Perm.nodup_iff ?_).1 this
        refine List.Perm.flatMap_right _ ?_
        rw [List.append_assoc, List.append_assoc]
        exact List.Perm.append_left _ List.perm_append_comm
      refine ⟨chain_ok h1 (fun x hx => (hA (L, none) (by simp)).1 x hx) (by rw [List.flatMap_append, List.nodup_append] at hperm; exact hperm.1), ?_⟩
      refine .last ?_
      intro i hi
      have : (maskI (E ++ L ++ Hd)).testBit i = true := by
        rw [Nat.eq_of_beq_eq_true h3, Nat.testBit_two_pow_sub_one]; simpa using hi
      exact maskI_bit this
  | raw, E, Hd, L, some H, h, hA, hn => by
    simp only [goodB, Bool.and_eq_true, List.all_eq_true] at h
    obtain ⟨⟨⟨h1, h2⟩, h3⟩, h4⟩ := h
    have hN : ((E ++ Hd ++ L ++ [H] ++ rawItems raw).flatMap It.idx).Nodup := by simpa [rawItems] using hn
    have hp1 : ((E ++ L ++ (Hd ++ [H]) ++ rawItems raw).flatMap It.idx).Nodup := by
      refine (List.Perm.nodup_iff ?_).1 hN
      refine List.Perm.flatMap_right _ (List.Perm.append_right _ ?_)
      rw [List.append_assoc E Hd L, List.append_assoc E, List.append_assoc E, ← List.append_assoc L]
      exact List.Perm.append_left _ (List.Perm.append_right _ List.perm_append_comm)
    have hEL : ((E ++ L).flatMap It.idx).Nodup := by
      rw [List.append_assoc, List.flatMap_append, List.nodup_append] at hp1; exact hp1.1
    obtain ⟨hHA, hHj, hHc⟩ := (hA (L, some H) (by simp)).2 H rfl
    cases raw with
    | nil => simp [goodB] at h4
    | cons st raw =>
      obtain ⟨L2, H2⟩ := st
      obtain ⟨g1, g2⟩ := good_ok h4 (fun st hst => hA st (by simp [hst])) hp1
      refine ⟨chain_ok h1 (fun x hx => (hA (L, some H) (by simp)).1 x hx) hEL, ?_⟩
      have hHE : ∀ y ∈ E ++ L ++ Hd, y ≠ H := by
        intro y hy
        refine apart_of (E := E ++ L ++ Hd) (F := [H]) (G' := rawItems ((L2, H2) :: raw)) ?_ y hy H (by simp)
        have := hp1
        simp only [List.append_assoc] at this ⊢
        exact this
      refine .next hHA hHj hHc hHE ?_ ?_ g1 ?_ ?_ g2
      · intro i hi
        have := h3 i (List.mem_range.2 hi)
        simp only [Bool.or_eq_true, Nat.testBit_or, Nat.testBit_two_pow, decide_eq_true_eq] at this
        rcases this with (h | h) | h
        · exact .inl (maskI_bit h)
        · exact .inr (.inl h.symm)
        · exact .inr (.inr (preds_ok _ _ h))
      · intro y hy p hp
        have := h2 y hy
        simp only [Bool.and_eq_true, Bool.or_eq_true, List.all_eq_true] at this
        refine ⟨guardFree_ok this.1 p hp, fun hr j hj => ?_⟩
        rcases this.2 with h | h
        · exact absurd hr (freeOf_ok h p hp)
        · exact preds_ok _ _ (h j hj)
      · intro x hx y hy
        have hq : ((Hd ++ [H] ++ L2 ++ (E ++ L ++ (H2.toList ++ rawItems raw))).flatMap It.idx).Nodup := by
          refine (List.Perm.nodup_iff ?_).1 hp1
          refine List.Perm.flatMap_right _ ?_
          show ((E ++ L) ++ (Hd ++ [H]) ++ (L2 ++ H2.toList ++ rawItems raw)).Perm _
          simp only [List.append_assoc]
          refine List.Perm.trans (l₂ := (Hd ++ ([H] ++ (L2 ++ (H2.toList ++ rawItems raw)))) ++ (E ++ L)) ?_ ?_
          · rw [← List.append_assoc E L]; exact List.perm_append_comm
          · simp only [List.append_assoc]
            refine List.Perm.append_left _ (List.Perm.append_left _ (List.Perm.append_left _ ?_))
            rw [← List.append_assoc H2.toList, ← List.append_assoc E L (H2.toList ++ rawItems raw)]
            exact List.perm_append_comm
        exact apart_of hq y hy x hx
      · intro x hx hr
        by_cases hl : (Hd ++ [H]).any (fun y => hasBit (predsL ops.toList []) y.i x.i) = true
        · obtain ⟨y, hy, hb⟩ := List.any_eq_true.1 hl
          exact .inr ⟨y, hy, preds_ok _ _ hb⟩
        · left
          exact List.mem_filter.2 ⟨hx, by simp only [hr, Bool.true_and, Bool.not_eq_true']; simpa using hl⟩
theorem compD3_ok {pl : Plan} {st : List Stg} (h : compD3 P n ops pl = some st) : DOk P n ops st := by
  unfold compD3 at h
  split at h
  · rename_i cs hco
    split at h
    · rename_i raw hraw
      rw [Bool.cond_eq_ite] at h
      split at h
      · rename_i hc
        simp only [Bool.and_eq_true] at hc
        obtain ⟨⟨h1, h2⟩, h3⟩ := hc
        have S := stat_ok hco h2
        have hmem := mkRaw_mem hraw
        have hnod : ((rawItems raw).flatMap It.idx).Nodup := by
          simp only [statB, Bool.and_eq_true] at h2
          exact nodB_ok h2.1.1.1.1.1.1
        have hin : ∀ (r : List RawSt), (∀ x ∈ rawItems r, x ∈ rawItems r) → ∀ st ∈ r, (∀ x ∈ st.1, x ∈ rawItems r) ∧ ∀ x, st.2 = some x → x ∈ rawItems r := by
          intro r _
          induction r with
          | nil => intro st hst; cases hst
          | cons a r ih =>
            obtain ⟨l, H⟩ := a
            intro st hst
            cases hst with
            | head => exact ⟨fun x hx => by simp [rawItems, hx], fun x hx => by simp at hx; simp [rawItems, hx]⟩
            | tail _ hst =>
              obtain ⟨g1, g2⟩ := ih (fun _ h => h) st hst
              exact ⟨fun x hx => by simp [rawItems, g1 x hx], fun x hx => by simp [rawItems, g2 x hx]⟩
        have hin := hin raw (fun _ h => h)
        cases raw with
        | nil => simp [goodB] at h3
        | cons a raw =>
          obtain ⟨L0, H0⟩ := a
          obtain ⟨g1, g2⟩ := good_ok (cs := cs) (All := rawItems ((L0, H0) :: raw)) h3 (fun st hst => ⟨fun x hx => ⟨(hin st hst).1 x hx, (hmem st hst).1 x hx⟩, fun x hx => ⟨(hin st hst).2 x hx, (hmem st hst).2 x hx⟩⟩) (by simpa using hnod)
          cases h
          refine ⟨⟨cs, _, L0, _, H0, _, S, rfl, g1, ?_, ?_⟩, ?_⟩
          · intro x hx hr
            exact List.mem_filter.2 ⟨by simpa using hx, by simp [hr]⟩
          · simpa using g2
          · intro i o hi e he hb
            have := back_ok h1 i o (by rw [Array.getElem?_toList]; exact hi) e he hb
            omega
      · cases h
    · cases h
  · cases h
end
def isHeavy (o : Oper) (c : Op) : Bool := match c.c with
  | .store _ | .call _ | .callv | .app _ | .copy _ | .upd _ _ => true
  | .mv => (match o.op with | .assign _ => true | _ => false)
  | _ => false
def insMap (c : Op) : Option Pos := match c.c, c.asx with | .ins _ _, .t d :: _ => some d | _, _ => none
abbrev Row3 := Nat × Op × Bool × Option Pos
def rows3 : List Oper → List Op → Nat → List Row3
  | o :: l, c :: m, i => (i, c, isHeavy o c, insMap c) :: rows3 l m (i + 1)
  | _, _, _ => []
def addsTo (d : Option Pos) (r : Row3) : Bool := match d, r.2.2.2 with | some p, some q => Pos.beq p q | _, _ => false
def countB (pr : List Nat) (hv : List Nat) (i : Nat) : Nat := (hv.filter fun h => hasBit pr i h).length
def lastOf : List Nat → Nat → Nat | [], n => n | x :: l, _ => lastOf l x
def light3 (rs : List Row3) : List Row3 → List (Nat × Nat × List Nat)
  | [] => []
  | (i, c, true, m) :: l => light3 rs l
  | (i, c, false, some m) :: l => light3 rs l
  | (i, c, false, none) :: l => (match c.c with
    | .mkmap => let js := (rs.filter fun r => addsTo c.d r).map (·.1); (lastOf js i, i, js)
    | _ => (i, i, [])) :: light3 rs l
def insLt (x : Nat × Nat × List Nat) : List (Nat × Nat × List Nat) → List (Nat × Nat × List Nat)
  | [] => [x]
  | y :: l => bif Nat.blt x.1 y.1 then x :: y :: l else y :: insLt x l
def sort3 : List (Nat × Nat × List Nat) → List (Nat × Nat × List Nat)
  | [] => []
  | x :: l => insLt x (sort3 l)
def stages (pr hv : List Nat) (ls : List (Nat × Nat × Nat × List Nat)) : Nat → List Nat → Plan
  | k, [] => [((ls.filter fun x => Nat.beq x.1 k).map (·.2.2), none)]
  | k, h :: l => ((ls.filter fun x => Nat.beq x.1 k).map (·.2.2), some h) :: stages pr hv ls (k + 1) l
def autoPlan (ops : Array Oper) (cs : List Op) : Plan :=
  let pr := predsL ops.toList []
  let rs := rows3 ops.toList cs 0
  let hv := (rs.filter fun r => r.2.2.1).map (·.1)
  stages pr hv ((sort3 (light3 rs rs)).map fun x => (countB pr hv x.2.1, x)) 0 hv
def compA (P : Program) (n : Nat) (ops : Array Oper) : Option (List Stg) := match compOps P n ops with | some cs => compD3 P n ops (autoPlan ops cs) | none => none
def compU (P : Program) (n : Nat) (ops : Array Oper) : Option (List Stg) := match compOps P n ops with
  | some cs => (match mkRaw cs (autoPlan ops cs) with | some raw => some (mkSt (predsL ops.toList []) [] [] raw) | none => none)
  | none => none
theorem compU_of {P : Program} {n : Nat} {ops : Array Oper} {st : List Stg} (h : compA P n ops = some st) : compU P n ops = some st := by
  unfold compA compD3 at h
  unfold compU
  cases hcs : compOps P n ops with
  | none => rw [hcs] at h; cases h
  | some cs =>
    rw [hcs] at h
    dsimp only at h ⊢
    cases hraw : mkRaw cs (autoPlan ops cs) with
    | none => rw [hraw] at h; cases h
    | some raw =>
      rw [hraw] at h
      dsimp only at h ⊢
      rw [Bool.cond_eq_ite] at h
      split at h
      · exact h
      · cases h
theorem compA_ok {P : Program} {n : Nat} {ops : Array Oper} {st : List Stg} (h : compA P n ops = some st) : DOk P n ops st := by
  unfold compA at h
  split at h
  · exact compD3_ok h
  · cases h
def compPs (n : Nat) (l : List Tmp) : Option (List Pos) := allO (fun t => if t < n then some (pos t) else none) l
def compC (D : Array Oper → Option (List Stg)) (P : Program) (n : Nat) : Bool → Code → Option AC
  | _, .skip => some .skip
  | _, .region id ops false => (compOps P n ops).map .reg
  | _, .region id ops true => (D ops).map .dreg
  | b, .seq x y => (match compC D P n b x, compC D P n b y with | some x, some y => some (.seq x y) | _, _ => none)
  | b, .cond c x y => (match compX n c, compC D P n b x, compC D P n b y with | some c, some x, some y => some (.cond c x y) | _, _, _ => none)
  | b, .block id x => (match compC D P n b x with | some x => some (.block id x) | none => none)
  | b, .loop x => (match compC D P n b x with | some x => some (.loop x) | none => none)
  | _, .exit id => some (.exit id)
  | _, .ret => some .ret
  | true, .rangeFunc f ps asg body => (match compX n f, compPs n ps.toList, compC D P n false asg, compC D P n false body with | some f, some ps, some a, some b => some (.rf f ps a b) | _, _, _, _ => none)
  | _, _ => none
theorem compPs_ok {n : Nat} : ∀ {l : List Tmp} {ps : List Pos}, compPs n l = some ps → allO (fun t => compD n (some t)) l = some (ps.map some)
  | [], ps, h => by cases h; rfl
  | t :: l, ps, h => by
    unfold compPs allO at h
    split at h
    · rename_i p r h1 h2
      cases h
      split at h1
      · rename_i ht
        cases h1
        have := compPs_ok (l := l) (ps := r) h2
        unfold allO
        rw [this]
        simp [compD, ht]
      · cases h1
    · cases h
theorem compC_ok {P : Program} {n : Nat} : ∀ {c : Code} {b : Bool} {a : AC}, compC (compA P n) P n b c = some a → CR P n b c a
  | .skip, b, a, h => by simp [compC] at h; subst h; exact .skip
  | .region id ops d, b, a, h => by
    cases d with
    | false =>
      simp only [compC, Option.map_eq_some_iff] at h
      obtain ⟨cs, h1, rfl⟩ := h
      exact .reg h1
    | true =>
      simp only [compC, Option.map_eq_some_iff] at h
      obtain ⟨cs, h1, rfl⟩ := h
      exact .dreg (compA_ok h1)
  | .seq x y, b, a, h => by
    simp only [compC] at h
    split at h
    · rename_i h1 h2; cases h; exact .seq (compC_ok h1) (compC_ok h2)
    · cases h
  | .cond c x y, b, a, h => by
    simp only [compC] at h
    split at h
    · rename_i h0 h1 h2; cases h; exact .cond h0 (compC_ok h1) (compC_ok h2)
    · cases h
  | .block id x, b, a, h => by
    simp only [compC] at h
    split at h
    · rename_i h1; cases h; exact .block (compC_ok h1)
    · cases h
  | .loop x, b, a, h => by
    simp only [compC] at h
    split at h
    · rename_i h1; cases h; exact .loop (compC_ok h1)
    · cases h
  | .exit id, b, a, h => by simp [compC] at h; subst h; exact .exit
  | .ret, b, a, h => by simp [compC] at h; subst h; exact .ret
  | .rangeFunc f ps asg body, b, a, h => by
    cases b with
    | false => simp [compC] at h
    | true =>
      simp only [compC] at h
      split at h
      · rename_i h0 h1 h2 h3; cases h; exact .rf h0 (compPs_ok h1) (compC_ok h2) (compC_ok h3)
      · cases h
theorem compC_mono {D D' : Array Oper → Option (List Stg)} (hD : ∀ ops st, D ops = some st → D' ops = some st) {P : Program} {n : Nat} : ∀ {c : Code} {b : Bool} {a : AC}, compC D P n b c = some a → compC D' P n b c = some a
  | .skip, b, a, h => by simpa [compC] using h
  | .region id ops d, b, a, h => by
    cases d with
    | false => simpa [compC] using h
    | true =>
      simp only [compC, Option.map_eq_some_iff] at h ⊢
      obtain ⟨cs, h1, h2⟩ := h
      exact ⟨cs, hD _ _ h1, h2⟩
  | .seq x y, b, a, h => by
    simp only [compC] at h ⊢
    split at h
    · rename_i h1 h2; rw [compC_mono hD h1, compC_mono hD h2]; exact h
    · cases h
  | .cond c x y, b, a, h => by
    simp only [compC] at h ⊢
    split at h
    · rename_i h0 h1 h2; rw [h0, compC_mono hD h1, compC_mono hD h2]; exact h
    · cases h
  | .block id x, b, a, h => by
    simp only [compC] at h ⊢
    split at h
    · rename_i h1; rw [compC_mono hD h1]; exact h
    · cases h
  | .loop x, b, a, h => by
    simp only [compC] at h ⊢
    split at h
    · rename_i h1; rw [compC_mono hD h1]; exact h
    · cases h
  | .exit id, b, a, h => by simpa [compC] using h
  | .ret, b, a, h => by simpa [compC] using h
  | .rangeFunc f ps asg body, b, a, h => by
    cases b with
    | false => simp [compC] at h
    | true =>
      simp only [compC] at h ⊢
      split at h
      · rename_i h0 h1 h2 h3; rw [h0, h1, compC_mono hD h2, compC_mono hD h3]; exact h
      · cases h
def lenPos (n : Nat) : List Pos := (List.range n).map pos
def codeG (D : Nat → Array Oper → Option (List Stg)) (P : Program) (np : Nat) (fn : Func) : Option Fn :=
  match fn.body with
  | some c => (match compC (D fn.ntmps) P fn.ntmps true c, allO (compR P fn.ntmps) fn.results.toList with
    | some a, some rs => bif !(fn.name == "runtime.NumGoroutine") then some ⟨lenPos np, rs, a⟩ else none
    | _, _ => none)
  | none => none
def compF (P : Program) (np : Nat) (fn : Func) : Option Fn := codeG (compA P) P np fn
def codeF (P : Program) (np : Nat) (fn : Func) : Fn :=
  match fn.body with
  | some c => (match compC (compU P fn.ntmps) P fn.ntmps true c, allO (compR P fn.ntmps) fn.results.toList with
    | some a, some rs => ⟨lenPos np, rs, a⟩
    | _, _ => ⟨[], [], .skip⟩)
  | none => ⟨[], [], .skip⟩
theorem compF_ok {P : Program} {np f : Nat} {fn : Func} {fn' : Fn} (hf : P.funcs[f]? = some fn) (h : compF P np fn = some fn') : FnOk P f fn' := by
  unfold compF codeG at h
  split at h
  · rename_i c hc
    split at h
    · rename_i a rs h1 h2
      rw [Bool.cond_eq_ite] at h
      split at h
      · rename_i hn
        cases h
        exact ⟨fn, c, hf, by simpa using hn, hc, compC_ok h1, by simp [lenPos], h2⟩
      · cases h
    · cases h
  · cases h
theorem codeF_of {P : Program} {np : Nat} {fn : Func} {fn' : Fn} (h : compF P np fn = some fn') : codeF P np fn = fn' := by
  unfold compF codeG at h
  unfold codeF
  split at h
  · rename_i c hc
    split at h
    · rename_i a rs h1 h2
      rw [Bool.cond_eq_ite] at h
      split at h
      · cases h
        have := compC_mono (D' := compU P fn.ntmps) (fun ops st => compU_of) h1
        simp only [this, h2]
      · cases h
    · cases h
  · cases h
theorem codeF_ok {P : Program} {np f : Nat} {fn : Func} (hf : P.funcs[f]? = some fn) (h : (compF P np fn).isSome = true) : FnOk P f (codeF P np fn) := by
  obtain ⟨fn', h⟩ := Option.isSome_iff_exists.1 h
  rw [codeF_of h]
  exact compF_ok hf h
end
end Go.AR
set_option maxRecDepth 100000
namespace Go.AR
open Go.Proofs
noncomputable section
theorem ok140 : FnOk Tryz.prog 140 FYw := compF_ok (np := 1) Tryz.func140 (by kernel_rfl)
theorem ok98 : FnOk Tryz.prog 98 FYac := compF_ok (np := 2) Tryz.func98 (by kernel_rfl)
theorem ok97 : FnOk Tryz.prog 97 FYe := compF_ok (np := 2) Tryz.func97 (by kernel_rfl)
theorem ok99 : FnOk Tryz.prog 99 FYf := compF_ok (np := 2) Tryz.func99 (by kernel_rfl)
theorem ok100 : FnOk Tryz.prog 100 FYg := compF_ok (np := 2) Tryz.func100 (by kernel_rfl)
theorem ok65 : FnOk Tryz.prog 65 FYm := compF_ok (np := 2) Tryz.func65 (by kernel_rfl)
theorem ok101 : FnOk Tryz.prog 101 FYao := compF_ok (np := 1) Tryz.func101 (by kernel_rfl)
theorem ok81 : FnOk Tryz.prog 81 FYat := compF_ok (np := 1) Tryz.func81 (by kernel_rfl)
theorem ok61 : FnOk Tryz.prog 61 FYk := compF_ok (np := 2) Tryz.func61 (by kernel_rfl)
theorem ok62 : FnOk Tryz.prog 62 FYd := compF_ok (np := 2) Tryz.func62 (by kernel_rfl)
theorem ok142 : FnOk Tryz.prog 142 FYaj := compF_ok (np := 2) Tryz.func142 (by kernel_rfl)
theorem ok83 : FnOk Tryz.prog 83 FYy := compF_ok (np := 1) Tryz.func83 (by kernel_rfl)
theorem ok95 : FnOk Tryz.prog 95 FYu := compF_ok (np := 1) Tryz.func95 (by kernel_rfl)
theorem ok122 : FnOk Tryz.prog 122 FYl := compF_ok (np := 2) Tryz.func122 (by kernel_rfl)
theorem ok141 : FnOk Tryz.prog 141 FYa := compF_ok (np := 2) Tryz.func141 (by kernel_rfl)
theorem ok102 : FnOk Tryz.prog 102 FYt := compF_ok (np := 2) Tryz.func102 (by kernel_rfl)
theorem ok103 : FnOk Tryz.prog 103 FYh := compF_ok (np := 2) Tryz.func103 (by kernel_rfl)
end
end Go.AR
namespace Go.AR
open Go.Proofs
noncomputable section
def c84 : Fn := codeF Tryz.prog 2 Tryz.f84
theorem ok84 : FnOk Tryz.prog 84 c84 := codeF_ok Tryz.func84 (by kernel_rfl)
def c85 : Fn := codeF Tryz.prog 1 Tryz.f85
theorem ok85 : FnOk Tryz.prog 85 c85 := codeF_ok Tryz.func85 (by kernel_rfl)
def c96 : Fn := codeF Tryz.prog 0 Tryz.f96
theorem ok96 : FnOk Tryz.prog 96 c96 := codeF_ok Tryz.func96 (by kernel_rfl)
def c118 : Fn := codeF Tryz.prog 1 Tryz.f118
theorem ok118 : FnOk Tryz.prog 118 c118 := codeF_ok Tryz.func118 (by kernel_rfl)
def c119 : Fn := codeF Tryz.prog 2 Tryz.f119
theorem ok119 : FnOk Tryz.prog 119 c119 := codeF_ok Tryz.func119 (by kernel_rfl)
def c120 : Fn := codeF Tryz.prog 2 Tryz.f120
theorem ok120 : FnOk Tryz.prog 120 c120 := codeF_ok Tryz.func120 (by kernel_rfl)
def c121 : Fn := codeF Tryz.prog 1 Tryz.f121
theorem ok121 : FnOk Tryz.prog 121 c121 := codeF_ok Tryz.func121 (by kernel_rfl)
def c125 : Fn := codeF Tryz.prog 1 Tryz.f125
theorem ok125 : FnOk Tryz.prog 125 c125 := codeF_ok Tryz.func125 (by kernel_rfl)
def c147 : Fn := codeF Tryz.prog 2 Tryz.f147
theorem ok147 : FnOk Tryz.prog 147 c147 := codeF_ok Tryz.func147 (by kernel_rfl)
def c148 : Fn := codeF Tryz.prog 2 Tryz.f148
theorem ok148 : FnOk Tryz.prog 148 c148 := codeF_ok Tryz.func148 (by kernel_rfl)
def c149 : Fn := codeF Tryz.prog 2 Tryz.f149
theorem ok149 : FnOk Tryz.prog 149 c149 := codeF_ok Tryz.func149 (by kernel_rfl)
def c150 : Fn := codeF Tryz.prog 1 Tryz.f150
theorem ok150 : FnOk Tryz.prog 150 c150 := codeF_ok Tryz.func150 (by kernel_rfl)
def c151 : Fn := codeF Tryz.prog 2 Tryz.f151
theorem ok151 : FnOk Tryz.prog 151 c151 := codeF_ok Tryz.func151 (by kernel_rfl)
def c152 : Fn := codeF Tryz.prog 2 Tryz.f152
theorem ok152 : FnOk Tryz.prog 152 c152 := codeF_ok Tryz.func152 (by kernel_rfl)
def c155 : Fn := codeF Tryz.prog 2 Tryz.f155
theorem ok155 : FnOk Tryz.prog 155 c155 := codeF_ok Tryz.func155 (by kernel_rfl)
def c157 : Fn := codeF Tryz.prog 1 Tryz.f157
theorem ok157 : FnOk Tryz.prog 157 c157 := codeF_ok Tryz.func157 (by kernel_rfl)
def c159 : Fn := codeF Tryz.prog 3 Tryz.f159
theorem ok159 : FnOk Tryz.prog 159 c159 := codeF_ok Tryz.func159 (by kernel_rfl)
def c184 : Fn := codeF Tryz.prog 1 Tryz.f184
theorem ok184 : FnOk Tryz.prog 184 c184 := codeF_ok Tryz.func184 (by kernel_rfl)
def c185 : Fn := codeF Tryz.prog 2 Tryz.f185
theorem ok185 : FnOk Tryz.prog 185 c185 := codeF_ok Tryz.func185 (by kernel_rfl)
def c186 : Fn := codeF Tryz.prog 2 Tryz.f186
theorem ok186 : FnOk Tryz.prog 186 c186 := codeF_ok Tryz.func186 (by kernel_rfl)
def c187 : Fn := codeF Tryz.prog 2 Tryz.f187
theorem ok187 : FnOk Tryz.prog 187 c187 := codeF_ok Tryz.func187 (by kernel_rfl)
def c190 : Fn := codeF Tryz.prog 2 Tryz.f190
theorem ok190 : FnOk Tryz.prog 190 c190 := codeF_ok Tryz.func190 (by kernel_rfl)
def c191 : Fn := codeF Tryz.prog 2 Tryz.f191
theorem ok191 : FnOk Tryz.prog 191 c191 := codeF_ok Tryz.func191 (by kernel_rfl)
def c195 : Fn := codeF Tryz.prog 2 Tryz.f195
theorem ok195 : FnOk Tryz.prog 195 c195 := codeF_ok Tryz.func195 (by kernel_rfl)
def c230 : Fn := codeF Tryz.prog 1 Tryz.f230
theorem ok230 : FnOk Tryz.prog 230 c230 := codeF_ok Tryz.func230 (by kernel_rfl)
def c232 : Fn := codeF Tryz.prog 1 Tryz.f232
theorem ok232 : FnOk Tryz.prog 232 c232 := codeF_ok Tryz.func232 (by kernel_rfl)
def c233 : Fn := codeF Tryz.prog 1 Tryz.f233
theorem ok233 : FnOk Tryz.prog 233 c233 := codeF_ok Tryz.func233 (by kernel_rfl)
end
end Go.AR
namespace Go.AR
open Go.Proofs
noncomputable section
def fnsCi : Tr Fn := (.nd (.nd (.nd (.nd (.nd (.nd (.nd .lf none (.nd .lf (some c191) .lf)) none (.nd (.nd .lf (some c159) .lf) (some FYu) .lf)) none .lf) none (.nd (.nd .lf none (.nd .lf (some FYh) .lf)) none (.nd (.nd (.nd .lf (some c151) .lf) none .lf) none (.nd .lf (some c119) .lf)))) none (.nd (.nd (.nd (.nd .lf none (.nd .lf (some c195) .lf)) none (.nd .lf (some FYf) .lf)) none (.nd (.nd (.nd .lf (some c147) .lf) (some FYy) .lf) none .lf)) none (.nd .lf none (.nd (.nd (.nd .lf (some c155) .lf) none .lf) none (.nd (.nd .lf (some c187) .lf) none .lf))))) none (.nd (.nd (.nd (.nd (.nd .lf (some FYm) .lf) none (.nd .lf (some FYe) .lf)) none (.nd (.nd .lf (some FYat) .lf) none .lf)) none (.nd (.nd .lf none (.nd .lf none (.nd .lf (some c233) .lf))) none (.nd .lf none (.nd (.nd .lf (some c185) .lf) (some c121) .lf)))) none (.nd (.nd (.nd .lf none (.nd .lf (some FYao) .lf)) none (.nd (.nd (.nd .lf (some c149) .lf) (some c85) .lf) none .lf)) none (.nd (.nd (.nd (.nd .lf (some FYa) .lf) none .lf) none .lf) none (.nd (.nd (.nd .lf (some c157) .lf) none .lf) (some FYk) (.nd .lf (some c125) .lf)))))) none (.nd (.nd (.nd (.nd (.nd .lf none (.nd .lf (some c96) .lf)) none .lf) none (.nd (.nd .lf none (.nd .lf none (.nd .lf (some c232) .lf))) none (.nd (.nd (.nd .lf (some c152) .lf) none .lf) none (.nd (.nd .lf (some c184) .lf) (some c120) .lf)))) none (.nd (.nd (.nd .lf none (.nd .lf (some FYg) .lf)) none (.nd (.nd (.nd .lf (some c148) .lf) (some c84) .lf) none .lf)) none (.nd (.nd (.nd (.nd .lf (some FYw) .lf) none .lf) none .lf) none .lf))) none (.nd (.nd (.nd (.nd .lf none (.nd .lf (some FYac) .lf)) none .lf) none (.nd .lf none (.nd .lf none (.nd (.nd .lf (some c186) .lf) (some FYl) .lf)))) none (.nd (.nd (.nd .lf none (.nd .lf (some FYt) (.nd .lf (some c230) .lf))) none (.nd (.nd (.nd .lf (some c150) .lf) none .lf) none (.nd .lf (some c118) .lf))) none (.nd (.nd (.nd (.nd .lf (some FYaj) .lf) none .lf) none .lf) none (.nd .lf (some FYd) (.nd (.nd .lf (some c190) .lf) none .lf)))))))
def orcCi : Tr (List AV → Tr Blk → Pos → Res) := (.nd (.nd (.nd .lf none (.nd .lf none (.nd .lf none (.nd .lf none (.nd .lf (some orcItoa) .lf))))) none (.nd .lf none (.nd (.nd .lf none (.nd .lf none (.nd .lf (some orcCut) .lf))) none .lf))) none (.nd (.nd .lf none (.nd .lf none (.nd .lf none (.nd (.nd (.nd .lf (some orcContains) .lf) none .lf) none (.nd .lf (some orcRepeat) .lf))))) none (.nd .lf none (.nd .lf none (.nd .lf none (.nd (.nd (.nd .lf (some orcParse) .lf) none .lf) none (.nd .lf (some orcJoin) .lf)))))))
def lCi : List (Nat × Fn) := [(61, FYk), (62, FYd), (65, FYm), (81, FYat), (83, FYy), (84, c84), (85, c85), (95, FYu), (96, c96), (97, FYe), (98, FYac), (99, FYf), (100, FYg), (101, FYao), (102, FYt), (103, FYh), (118, c118), (119, c119), (120, c120), (121, c121), (122, FYl), (125, c125), (140, FYw), (141, FYa), (142, FYaj), (147, c147), (148, c148), (149, c149), (150, c150), (151, c151), (152, c152), (155, c155), (157, c157), (159, c159), (184, c184), (185, c185), (186, c186), (187, c187), (190, c190), (191, c191), (195, c195), (230, c230), (232, c232), (233, c233)]
def mCi : List (Nat × (List AV → Tr Blk → Pos → Res)) := [(117, orcCut), (123, orcItoa), (124, orcRepeat), (126, orcJoin), (156, orcContains), (158, orcParse)]
theorem fnsCi_eq : fnsCi = mkTab lCi := by kernel_rfl
theorem orcCi_eq : orcCi = mkTab mCi := by kernel_rfl
theorem lCi_ok : AllOk Tryz.prog lCi := .cons ok61 (.cons ok62 (.cons ok65 (.cons ok81 (.cons ok83 (.cons ok84 (.cons ok85 (.cons ok95 (.cons ok96 (.cons ok97 (.cons ok98 (.cons ok99 (.cons ok100 (.cons ok101 (.cons ok102 (.cons ok103 (.cons ok118 (.cons ok119 (.cons ok120 (.cons ok121 (.cons ok122 (.cons ok125 (.cons ok140 (.cons ok141 (.cons ok142 (.cons ok147 (.cons ok148 (.cons ok149 (.cons ok150 (.cons ok151 (.cons ok152 (.cons ok155 (.cons ok157 (.cons ok159 (.cons ok184 (.cons ok185 (.cons ok186 (.cons ok187 (.cons ok190 (.cons ok191 (.cons ok195 (.cons ok230 (.cons ok232 (.cons ok233 .nil)))))))))))))))))))))))))))))))))))))))))))
theorem mCi_ok {Z : Nat → Option Obj} (hZ : ZOk Z) : AllOrc Tryz.prog (LOk Tryz.prog Z) mCi := .cons (orcCut_ok hZ) (.cons (orcItoa_ok hZ) (.cons orcRepeat_ok (.cons orcJoin_ok (.cons orcContains_ok (.cons orcParse_ok .nil)))))
def Ci : Ctx := ⟨fnsCi, orcCi⟩
theorem Ci_ok {Z : Nat → Option Obj} (hZ : ZOk Z) : CtxOk Tryz.prog (LOk Tryz.prog Z) Ci := ctx_ok fnsCi_eq orcCi_eq lCi_ok (mCi_ok hZ)
end
end Go.AR
namespace Go.AR
open Go.Proofs
noncomputable section
theorem mixedT : Tryz.prog.follows .mixedOrders = true := by kernel_rfl
def sm (a : ZI) : Bool := Nat.ble a.mag (2 ^ 4096)
set_option exponentiation.threshold 5000 in
theorem sm_lim {a : ZI} (h : sm a = true) : a.mag < LIM := by
  have h1 : a.mag ≤ 2 ^ 4096 := Nat.le_of_ble_eq_true h
  have h2 : 2 ^ 4096 < BB ^ 129 := by decide +kernel
  have h3 : ∀ e, 129 ≤ e → BB ^ 129 ≤ BB ^ e := fun e he => Nat.pow_le_pow_right BB_pos he
  have h4 := h3 4000000 (by decide)
  have h5 : a.mag < BB ^ 4000000 := Nat.lt_of_le_of_lt h1 (Nat.lt_of_lt_of_le h2 h4)
  unfold LIM; exact h5
def orc1 (F : ZI → Option AV) (vs : List AV) (h : Tr Blk) (nx : Pos) : Res :=
  match vs with | [x] => (match zof x with | some a => bif sm a then (match F a with | some r => .ok r h nx | none => .bad) else .bad | none => .bad) | _ => .bad
def orc2 (F : ZI → ZI → Option AV) (vs : List AV) (h : Tr Blk) (nx : Pos) : Res :=
  match vs with | [x, y] => (match zof x, zof y with | some a, some b => bif sm a && sm b then (match F a b with | some r => .ok r h nx | none => .bad) else .bad | _, _ => .bad) | _ => .bad
def orcS (F : List AV → Option AV) (vs : List AV) (h : Tr Blk) (nx : Pos) : Res := bif puL false vs then (match F vs with | some r => .ok r h nx | none => .bad) else .bad
section
variable {Z : Nat → Option Obj} {f : Nat}
theorem orc1_ok {F : ZI → Option AV} (hb : ∃ fn c, Tryz.prog.funcs[f]? = some fn ∧ (fn.name == "runtime.NumGoroutine") = false ∧ fn.body = some c) (hp : ∀ a r, a.mag < LIM → F a = some r → PureOk Tryz.prog (LOk Tryz.prog Z) f [zv a] r) : OrcOk Tryz.prog (LOk Tryz.prog Z) f (orc1 F) := by
  refine orc_pure LOk.mono hb ?_
  intro vs h nx v h' nx' hx
  unfold orc1 at hx
  split at hx
  · split at hx
    · rename_i x _ a ha
      cases hs : sm a with
      | false => rw [hs] at hx; cases hx
      | true =>
        rw [hs, cond_true] at hx
        split at hx
        · rename_i r hr
          cases hx
          exact ⟨rfl, rfl, _, .cons (zof_ok ha) .nil, hp a _ (sm_lim hs) hr⟩
        · cases hx
    · cases hx
  · cases hx
theorem orc2_ok {F : ZI → ZI → Option AV} (hb : ∃ fn c, Tryz.prog.funcs[f]? = some fn ∧ (fn.name == "runtime.NumGoroutine") = false ∧ fn.body = some c) (hp : ∀ a b r, a.mag < LIM → b.mag < LIM → F a b = some r → PureOk Tryz.prog (LOk Tryz.prog Z) f [zv a, zv b] r) : OrcOk Tryz.prog (LOk Tryz.prog Z) f (orc2 F) := by
  refine orc_pure LOk.mono hb ?_
  intro vs h nx v h' nx' hx
  unfold orc2 at hx
  split at hx
  · split at hx
    · rename_i x y _ _ a b ha hb
      cases hs : (sm a && sm b) with
      | false => rw [hs] at hx; cases hx
      | true =>
        rw [hs, cond_true] at hx
        simp only [Bool.and_eq_true] at hs
        split at hx
        · rename_i r hr
          cases hx
          exact ⟨rfl, rfl, _, .cons (zof_ok ha) (.cons (zof_ok hb) .nil), hp a b _ (sm_lim hs.1) (sm_lim hs.2) hr⟩
        · cases hx
    · cases hx
  · cases hx
mutual
theorem pu_true : ∀ {v : AV}, pu false v = true → pu true v = true
  | .p _ _, h => by simp [pu] at h
  | .sl _ _ _ _, h => by simp [pu] at h
  | .m _, h => by simp [pu] at h
  | .y _, h => by simp [pu] at h
  | .f _ c, h => by simp only [pu] at h ⊢; exact puL_true h
  | .a l, h => by simp only [pu] at h ⊢; exact puL_true h
  | .t l, h => by simp only [pu] at h ⊢; exact puL_true h
  | .z j l _ _, h => by simp only [pu, Bool.and_eq_true] at h ⊢; exact ⟨by simp, puL_true h.2⟩
  | .zp j l, h => by simp only [pu, Bool.and_eq_true] at h ⊢; exact ⟨by simp, puL_true h.2⟩
  | .u, h => rfl
  | .b _, h => rfl
  | .i _ _, h => rfl
  | .s _, h => rfl
  | .q _ _, h => rfl
  | .np, h => rfl
  | .ns, h => rfl
  | .nm, h => rfl
  | .nf, h => rfl
  | .ni, h => rfl
  | .g _, h => rfl
theorem puL_true : ∀ {l : List AV}, puL false l = true → puL true l = true
  | [], h => rfl
  | x :: l, h => by simp only [puL, Bool.and_eq_true] at h ⊢; exact ⟨pu_true h.1, puL_true h.2⟩
end
theorem FzL.same : ∀ {l : List AV} {h : Tr Blk}, puL true l = true → FzL true h l l
  | [], h, hp => .nil
  | x :: l, h, hp => by simp only [puL, Bool.and_eq_true] at hp; exact .cons (.same _ hp.1) (FzL.same hp.2)
theorem orcS_ok {F : List AV → Option AV} (hb : ∃ fn c, Tryz.prog.funcs[f]? = some fn ∧ (fn.name == "runtime.NumGoroutine") = false ∧ fn.body = some c) (hp : ∀ vs r, F vs = some r → PureOk Tryz.prog (LOk Tryz.prog Z) f vs r) : OrcOk Tryz.prog (LOk Tryz.prog Z) f (orcS F) := by
  refine orc_pure LOk.mono hb ?_
  intro vs h nx v h' nx' hx
  unfold orcS at hx
  cases hs : puL false vs with
  | false => rw [hs] at hx; cases hx
  | true =>
    rw [hs, cond_true] at hx
    split at hx
    · rename_i r hr
      cases hx
      exact ⟨rfl, rfl, _, FzL.same (puL_true hs), hp _ _ hr⟩
    · cases hx
end
def runR (f : Nat) (us : List AV) : Option AV := match calls Ci 1000000 (pos f) us .lf .h with | .ok v h' _ => fz2 h' v | .bad => none
section
variable {Z : Nat → Option Obj} (hZ : ZOk Z)
include hZ
theorem runR_1 {f : Nat} {a : ZI} {r : AV} (h : runR f [openI a] = some r) : PureOk Tryz.prog (LOk Tryz.prog Z) f [zv a] r := by
  unfold runR at h
  split at h
  · rename_i v h' nx' hx
    exact pure_run1 mixedT (Ci_ok hZ) hx (fz2_ok h)
  · cases h
theorem runR_2 {f : Nat} {a b : ZI} {r : AV} (h : runR f [openI a, openI b] = some r) : PureOk Tryz.prog (LOk Tryz.prog Z) f [zv a, zv b] r := by
  unfold runR at h
  split at h
  · rename_i v h' nx' hx
    exact pure_run2 mixedT (Ci_ok hZ) hx (fz2_ok h)
  · cases h
theorem runR_S {f : Nat} {vs : List AV} {r : AV} (h : runR f vs = some r) : PureOk Tryz.prog (LOk Tryz.prog Z) f vs r := by
  unfold runR at h
  split at h
  · rename_i v h' nx' hx
    exact pure_of_calls mixedT (Ci_ok hZ) hx (fz2_ok h)
  · cases h
end
section
theorem oTrim : Own Ci nYw FYw := ⟨by kernel_rfl, by kernel_rfl⟩
theorem oSigned : Own Ci nYac FYac := ⟨by kernel_rfl, by kernel_rfl⟩
theorem oOrder : Own Ci nYe FYe := ⟨by kernel_rfl, by kernel_rfl⟩
theorem oPlus : Own Ci nYf FYf := ⟨by kernel_rfl, by kernel_rfl⟩
theorem oMinus : Own Ci nYg FYg := ⟨by kernel_rfl, by kernel_rfl⟩
theorem oAdd : Own Ci nYm FYm := ⟨by kernel_rfl, by kernel_rfl⟩
theorem oNeg : Own Ci nYao FYao := ⟨by kernel_rfl, by kernel_rfl⟩
theorem oAbs : Own Ci nYat FYat := ⟨by kernel_rfl, by kernel_rfl⟩
theorem oCompare : Own Ci nYk FYk := ⟨by kernel_rfl, by kernel_rfl⟩
theorem oMul : Own Ci nYd FYd := ⟨by kernel_rfl, by kernel_rfl⟩
theorem oSub : Own Ci nYaj FYaj := ⟨by kernel_rfl, by kernel_rfl⟩
theorem oFrom : Own Ci nYy FYy := ⟨by kernel_rfl, by kernel_rfl⟩
theorem oSign : Own Ci nYu FYu := ⟨by kernel_rfl, by kernel_rfl⟩
theorem oShort : Own Ci nYl FYl := ⟨by kernel_rfl, by kernel_rfl⟩
theorem oDivide : Own Ci nYa FYa := ⟨by kernel_rfl, by kernel_rfl⟩
theorem oGcd : Own Ci nYt FYt := ⟨by kernel_rfl, by kernel_rfl⟩
theorem oDivMod : Own Ci nYh FYh := ⟨by kernel_rfl, by kernel_rfl⟩
variable {Z : Nat → Option Obj} (hZ : ZOk Z) {a b : ZI}
include hZ
theorem pAdd (ha : a.mag < LIM) (hb : b.mag < LIM) : PureOk Tryz.prog (LOk Tryz.prog Z) 65 [zv a, zv b] (zv (ZI.add a b)) :=
  pure2 mixedT (Ci_ok hZ) fun c d hc hd => Add_spec oAdd oTrim oSigned oPlus oMinus oOrder hc hd (Grow.refl _ _) ha hb fun c h' nx' _ hz => hz.fz
theorem pSub (ha : a.mag < LIM) (hb : b.mag < LIM) : PureOk Tryz.prog (LOk Tryz.prog Z) 142 [zv a, zv b] (zv (ZI.sub a b)) :=
  pure2 mixedT (Ci_ok hZ) fun c d hc hd => Sub_spec oSub oNeg oAdd oTrim oSigned oPlus oMinus oOrder hc hd (Grow.refl _ _) ha hb fun c h' nx' _ hz => hz.fz
theorem pMul (ha : a.mag < LIM) (hb : b.mag < LIM) : PureOk Tryz.prog (LOk Tryz.prog Z) 62 [zv a, zv b] (zv (ZI.mul a b)) :=
  pure2 mixedT (Ci_ok hZ) fun c d hc hd => Mul_spec oMul oTrim oSigned hc hd (Grow.refl _ _) ha hb fun c h' nx' _ hz => hz.fz
theorem pCompare (ha : a.mag < LIM) (hb : b.mag < LIM) : PureOk Tryz.prog (LOk Tryz.prog Z) 61 [zv a, zv b] (.i .i64 (ZI.cmp a b)) :=
  pure2 mixedT (Ci_ok hZ) fun c d hc hd => Compare_spec oCompare oOrder hc hd (Grow.refl _ _) ha hb fun h' nx' _ => .same _ rfl
theorem pNeg : PureOk Tryz.prog (LOk Tryz.prog Z) 101 [zv a] (zv (ZI.neg' a)) :=
  pure1 mixedT (Ci_ok hZ) fun c hc => Neg_spec oNeg hc (Grow.refl _ _) fun c h' nx' hg hz => (hz.grow hg).fz
theorem pAbs : PureOk Tryz.prog (LOk Tryz.prog Z) 81 [zv a] (zv (ZI.abs a)) :=
  pure1 mixedT (Ci_ok hZ) fun c hc => Abs_spec oAbs hc (Grow.refl _ _) fun c h' nx' hg hz => (hz.grow hg).fz
theorem pSign : PureOk Tryz.prog (LOk Tryz.prog Z) 95 [zv a] (.i .i64 (ZI.sign a)) :=
  pure1 mixedT (Ci_ok hZ) fun c hc => Sign_spec oSign hc (Grow.refl _ _) fun h' nx' _ => .same _ rfl
theorem pGcd (ha : a.mag < LIM) (hb : b.mag < BB) : PureOk Tryz.prog (LOk Tryz.prog Z) 102 [zv a, zv b] (zv (ZI.gcd a b)) :=
  pure2 mixedT (Ci_ok hZ) fun c d hc hd => Gcd_spec oGcd oDivide oTrim oShort oOrder hc hd (Grow.refl _ _) ha hb fun c h' nx' _ hz => hz.fz
theorem pDivMod (ha : a.mag < LIM) (hb : b.mag < LIM) (hok : DivOk a.mag b.mag) : PureOk Tryz.prog (LOk Tryz.prog Z) 103 [zv a, zv b] (.t [zv (ZI.divmod a b).1, zv (ZI.divmod a b).2, .i .i64 0]) :=
  pure2 mixedT (Ci_ok hZ) fun c d hc hd => DivMod_spec oDivMod oDivide oShort oSign oFrom oSub oNeg oAdd oTrim oSigned oPlus oMinus oOrder hc hd (Grow.refl _ _) ha hb hok fun c d h' nx' _ hz hz' => .t _ _ (.cons hz.fz (.cons hz'.fz (.cons (.same _ rfl) .nil)))
theorem pFrom {n : Int} (h1 : -9223372036854775808 ≤ n) (h2 : n < 9223372036854775808) : PureOk Tryz.prog (LOk Tryz.prog Z) 83 [.i .i64 n] (zv (ZI.ofInt n)) :=
  pure0 mixedT (Ci_ok hZ) (From_spec oFrom oTrim oSigned n h1 h2 fun c h' nx' _ hz => hz.fz)
end
def fDivMod (a b : ZI) : Option AV := bif Bool.not (Nat.beq b.mag 0) && (Nat.blt a.mag b.mag || Nat.blt b.mag 4294967296) then some (.t [zv (ZI.divmod a b).1, zv (ZI.divmod a b).2, .i .i64 0]) else runR 103 [openI a, openI b]
def fGcd (a b : ZI) : Option AV := bif Nat.blt b.mag 4294967296 then some (zv (ZI.gcd a b)) else runR 102 [openI a, openI b]
def fFrom (vs : List AV) : Option AV := match vs with | [.i .i64 n] => (match n with | .ofNat m => bif Nat.blt m 9223372036854775808 then some (zv (ZI.ofInt n)) else none | .negSucc m => bif Nat.blt m 9223372036854775808 then some (zv (ZI.ofInt n)) else none) | _ => none
def orcAdd := orc2 fun a b => some (zv (ZI.add a b))
def orcSub := orc2 fun a b => some (zv (ZI.sub a b))
def orcMul := orc2 fun a b => some (zv (ZI.mul a b))
def orcCompare := orc2 fun a b => some (.i .i64 (ZI.cmp a b))
def orcNeg := orc1 fun a => some (zv (ZI.neg' a))
def orcAbs := orc1 fun a => some (zv (ZI.abs a))
def orcSign := orc1 fun a => some (.i .i64 (ZI.sign a))
def orcGcd := orc2 fGcd
def orcDivMod := orc2 fDivMod
def orcFrom := orcS fFrom
def orcText := orc1 fun a => runR 85 [openI a]
def orcInt := orc1 fun a => runR 230 [openI a]
def orcRead := orcS (runR 84)
section
variable {Z : Nat → Option Obj} (hZ : ZOk Z)
include hZ
theorem orcAdd_ok : OrcOk Tryz.prog (LOk Tryz.prog Z) 65 orcAdd := orc2_ok ⟨_, _, Tryz.func65, by kernel_rfl, rfl⟩ fun a b r ha hb h => by cases h; exact pAdd hZ ha hb
theorem orcSub_ok : OrcOk Tryz.prog (LOk Tryz.prog Z) 142 orcSub := orc2_ok ⟨_, _, Tryz.func142, by kernel_rfl, rfl⟩ fun a b r ha hb h => by cases h; exact pSub hZ ha hb
theorem orcMul_ok : OrcOk Tryz.prog (LOk Tryz.prog Z) 62 orcMul := orc2_ok ⟨_, _, Tryz.func62, by kernel_rfl, rfl⟩ fun a b r ha hb h => by cases h; exact pMul hZ ha hb
theorem orcCompare_ok : OrcOk Tryz.prog (LOk Tryz.prog Z) 61 orcCompare := orc2_ok ⟨_, _, Tryz.func61, by kernel_rfl, rfl⟩ fun a b r ha hb h => by cases h; exact pCompare hZ ha hb
theorem orcNeg_ok : OrcOk Tryz.prog (LOk Tryz.prog Z) 101 orcNeg := orc1_ok ⟨_, _, Tryz.func101, by kernel_rfl, rfl⟩ fun a r ha h => by cases h; exact pNeg hZ
theorem orcAbs_ok : OrcOk Tryz.prog (LOk Tryz.prog Z) 81 orcAbs := orc1_ok ⟨_, _, Tryz.func81, by kernel_rfl, rfl⟩ fun a r ha h => by cases h; exact pAbs hZ
theorem orcSign_ok : OrcOk Tryz.prog (LOk Tryz.prog Z) 95 orcSign := orc1_ok ⟨_, _, Tryz.func95, by kernel_rfl, rfl⟩ fun a r ha h => by cases h; exact pSign hZ
theorem orcGcd_ok : OrcOk Tryz.prog (LOk Tryz.prog Z) 102 orcGcd := orc2_ok ⟨_, _, Tryz.func102, by kernel_rfl, rfl⟩ fun a b r ha hb h => by
  unfold fGcd at h
  cases hs : Nat.blt b.mag 4294967296 with
  | true => rw [hs] at h; cases h; rw [Nat.blt_eq] at hs; exact pGcd hZ ha hs
  | false => rw [hs] at h; exact runR_2 hZ h
theorem orcDivMod_ok : OrcOk Tryz.prog (LOk Tryz.prog Z) 103 orcDivMod := orc2_ok ⟨_, _, Tryz.func103, by kernel_rfl, rfl⟩ fun a b r ha hb h => by
  unfold fDivMod at h
  cases hs : (Bool.not (Nat.beq b.mag 0) && (Nat.blt a.mag b.mag || Nat.blt b.mag 4294967296)) with
  | true =>
    rw [hs] at h; cases h
    simp only [Bool.and_eq_true, Bool.or_eq_true, Nat.blt_eq, Bool.not_eq_true'] at hs
    refine pDivMod hZ ha hb ⟨fun e => ?_, hs.2⟩
    rw [e] at hs; exact absurd hs.1 (by decide)
  | false => rw [hs] at h; exact runR_2 hZ h
theorem orcFrom_ok : OrcOk Tryz.prog (LOk Tryz.prog Z) 83 orcFrom := orcS_ok ⟨_, _, Tryz.func83, by kernel_rfl, rfl⟩ fun vs r h => by
  unfold fFrom at h
  split at h
  · rename_i n
    cases n with
    | ofNat m =>
      have h : (bif Nat.blt m 9223372036854775808 then some (zv (ZI.ofInt (.ofNat m))) else none) = some r := h
      cases hs : Nat.blt m 9223372036854775808 with
      | false => rw [hs] at h; cases h
      | true => rw [hs] at h; cases h; rw [Nat.blt_eq] at hs; exact pFrom hZ (by simp) (by simp; omega)
    | negSucc m =>
      have h : (bif Nat.blt m 9223372036854775808 then some (zv (ZI.ofInt (.negSucc m))) else none) = some r := h
      cases hs : Nat.blt m 9223372036854775808 with
      | false => rw [hs] at h; cases h
      | true => rw [hs] at h; cases h; rw [Nat.blt_eq] at hs; exact pFrom hZ (by omega) (by omega)
  · cases h
theorem orcText_ok : OrcOk Tryz.prog (LOk Tryz.prog Z) 85 orcText := orc1_ok ⟨_, _, Tryz.func85, by kernel_rfl, rfl⟩ fun a r ha h => runR_1 hZ h
theorem orcInt_ok : OrcOk Tryz.prog (LOk Tryz.prog Z) 230 orcInt := orc1_ok ⟨_, _, Tryz.func230, by kernel_rfl, rfl⟩ fun a r ha h => runR_1 hZ h
theorem orcRead_ok : OrcOk Tryz.prog (LOk Tryz.prog Z) 84 orcRead := orcS_ok ⟨_, _, Tryz.func84, by kernel_rfl, rfl⟩ fun vs r h => runR_S hZ h
end
end
end Go.AR
