import PyProof.Rows.All
import Wide.All
import OpenK.AllK
import Wide.FinOn
import HandS.ForMost
import HandS.Evl
import HandS.Walk
import HandS.Steps
import HandS.Property
import HandS.IsInst
import HandS.Star
import KE.GoesEnum
import KE.GoesMore
import HandS.Style
import KE.SortData
import KE.SortCalls
import PyProof.TupleOfSeq
import KE.KExcSuper
import KE.KSuper
import KE.KSuperObj
import HandS.ExcInit
import HandS.ExcField
import HandS.TupAny
import HandS.ForExc
import HandS.Defaults
import HandS.ClsMeth
import HandS.ExcSuper
import KE.KRevSl
import PySem.Challenge.RW_unseenflips_k07_rules_without_end
set_option Elab.async false
set_option linter.all false
set_option maxRecDepth 100000
set_option maxHeartbeats 4000000
namespace Fl
open PySem L2 Evl TL PySem.StrLaws

/-! ### words of bits -/
abbrev W := List Bool
def bc (b : Bool) : Nat := if b then 49 else 48
def S (w : W) : Str := ⟨(w.map bc).toArray⟩
theorem bc_inj {a b : Bool} (h : bc a = bc b) : a = b := by
  cases a <;> cases b <;> first | rfl | (exact absurd h (by decide))
theorem map_bc_inj : ∀ {a b : W}, a.map bc = b.map bc → a = b
  | [], [], _ => rfl
  | [], _ :: _, h => by simp at h
  | _ :: _, [], h => by simp at h
  | x :: a, y :: b, h => by
    rw [List.map_cons, List.map_cons] at h
    injection h with h1 h2
    rw [bc_inj h1, map_bc_inj h2]
theorem S_len (w : W) : (S w).length = w.length := by simp [S, Str.length]
theorem tl_S (w : W) : (S w).cps.toList = w.map bc := rfl
theorem S_inj {a b : W} (h : S a = S b) : a = b := map_bc_inj (by
  have e := congrArg (fun x : Str => x.cps.toList) h
  exact e)
theorem S_app (a b : W) : S a ++ S b = S (a ++ b) := by
  apply ext_tl
  rw [tl_append]
  show a.map bc ++ b.map bc = (a ++ b).map bc
  rw [List.map_append]
theorem S_eq (a b : W) : decide (V.str (S a) = V.str (S b)) = decide (a = b) := by
  by_cases h : a = b
  · subst h
    simp
  · rw [decide_eq_false h, decide_eq_false (fun e => h (S_inj (V.str.inj e)))]
theorem S_nil : S [] = ("" : Str) := by decide +kernel
theorem S_0 : S [false] = ("0" : Str) := by decide +kernel
theorem S_1 : S [true] = ("1" : Str) := by decide +kernel
theorem S_01 : S [false, true] = ("01" : Str) := by decide +kernel
theorem S_sign (b : Bool) : (⟨#[bc b]⟩ : Str) = S [b] := rfl
def cutW (xs : W) (lo hi : Option Int) : W := (xs.drop (HT.sIx xs.length 0 lo)).take (HT.sIx xs.length xs.length hi - HT.sIx xs.length 0 lo)
theorem S_cut (w : W) (lo hi : Option Int) : cutS (S w) lo hi = S (cutW w lo hi) := by
  apply ext_tl
  show ((S w).cps.toList.drop (HT.sIx (S w).length 0 lo)).take (HT.sIx (S w).length (S w).length hi - HT.sIx (S w).length 0 lo) = (cutW w lo hi).map bc
  rw [tl_S, S_len]
  unfold cutW
  rw [← List.map_drop, ← List.map_take]
theorem cutW_from (w : W) (n : Nat) (h : n ≤ w.length) : cutW w (some (n : Int)) none = w.drop n := by
  unfold cutW
  have e : HT.sIx w.length 0 (some (n : Int)) = n := by
    unfold HT.sIx
    simp only
    rw [if_neg (by omega)]
    simp
    omega
  rw [e]
  show (w.drop n).take (w.length - n) = w.drop n
  rw [List.take_of_length_le (by simp)]
theorem cutW_to (w : W) (n : Nat) (h : n ≤ w.length) : cutW w none (some (n : Int)) = w.take n := by
  unfold cutW
  have e : HT.sIx w.length w.length (some (n : Int)) = n := by
    unfold HT.sIx
    simp only
    rw [if_neg (by omega)]
    simp
    omega
  rw [e]
  rfl
/-- the last n bits (all of them if there are fewer) -/
def tailW (l : W) (n : Nat) : W := l.drop (l.length - n)
theorem tailW_len (l : W) (n : Nat) : (tailW l n).length = min n l.length := by
  unfold tailW
  rw [List.length_drop]
  omega

/-! ### texts' methods on words -/
def endsW (a b : W) : Bool := decide (b.length ≤ a.length) && decide (a.drop (a.length - b.length) = b)
theorem S_ends (a b : W) : Txt.endswith (S a) (S b) = endsW a b := by
  unfold Txt.endswith endsW
  rw [S_len, S_len, subAt_eq, Nat.zero_add]
  by_cases h : b.length ≤ a.length
  · rw [decide_eq_true h, Bool.true_and, Bool.true_and]
    show (((a.map bc).drop (a.length - b.length)).take (S b).length == b.map bc) = _
    rw [S_len, ← List.map_drop, ← List.map_take, List.take_of_length_le (by rw [List.length_drop]; omega)]
    by_cases e : a.drop (a.length - b.length) = b
    · rw [decide_eq_true e, e]
      simp
    · rw [decide_eq_false e]
      simp only [beq_eq_false_iff_ne, ne_eq]
      exact fun q => e (map_bc_inj q)
  · rw [decide_eq_false h, Bool.false_and, Bool.false_and]

/-! ### operators by name -/
def rAddI : R2 := rI0 fun i j => .int (i + j)
def rSubI : R2 := rI0 fun i j => .int (i - j)
def rMulI : R2 := rI CMul fun i j => .int (i * j)
def rModI : R2 := rI (fun _ j => 0 < j) fun i j => .int (i % j)
def rFdvI : R2 := rI CDiv fun i j => .int (i / j)
def rLtI : R2 := rI0 fun i j => .bl (decide (i < j))
def rLeI : R2 := rI0 fun i j => .bl (decide (i ≤ j))
def rGtI : R2 := rI0 fun i j => .bl (decide (j < i))
def rGeI : R2 := rI0 fun i j => .bl (decide (j ≤ i))
def rAddT : R2 := fun x y H Q => ∃ i j, x = .str i ∧ y = .str j ∧ i.length + j.length ≤ sizeLine ∧ Q (.str (i ++ j)) H
def rEnds : V → List V → Hp → VK → Prop := fun x xs H Q => ∃ a b, x = .str a ∧ xs = [.str b] ∧ Q (.bl (Txt.endswith a b)) H
def rLenT : List V → Hp → VK → Prop := fun xs H Q => ∃ z, xs = [.str z] ∧ z.length ≤ sizeLine ∧ Q (.int z.length) H
def rMinT : List V → Hp → VK → Prop := fun xs H Q => ∃ i j, xs = [.int i, .int j] ∧ Q (.int (if j < i then j else i)) H
section
variable {X : Cx}
theorem opAddI : OpR X (binaryOp .Add) rAddI := op_add
theorem opSubI : OpR X (binaryOp .Sub) rSubI := op_sub
theorem opMulI : OpR X (binaryOp .Mult) rMulI := op_mul
theorem opModI : OpR X (binaryOp .Mod) rModI := op_mod
theorem opFdvI : OpR X (binaryOp .FloorDiv) rFdvI := op_fdiv
theorem opLtI : OpR X (compareOp .Lt) rLtI := op_lt
theorem opLeI : OpR X (compareOp .LtE) rLeI := op_le
theorem opGtI : OpR X (compareOp .Gt) rGtI := op_gt
theorem opGeI : OpR X (compareOp .GtE) rGeI := op_ge
theorem opAddT : OpR X (binaryOp .Add) rAddT := op_add_str
theorem mtEnds : MtR X "str.endswith" rEnds := mt_endswith
theorem callLenT : CallR X (.builtin "len") rLenT := call_len_str
theorem callLenS : CallR X (.builtin "len") (rLenS X.K) := call_len_seq
theorem callMax2 (hc : X.calm = true) : CallR X (.builtin "max") rMax2 := call_max2 hc
theorem callMin2 (hc : X.calm = true) : CallR X (.builtin "min") rMinT := call_min2 hc
end

/-! ### what evaluates to what -/
section
variable {K : PySem.W.Frag} {σ : L2.St} {H H' : Hp} {ta tb te tx : TE} {t u : TT} {x y z v : V} {D : Ends} {tu tw tz : TS} {g : TG}
theorem sz {n : Nat} (h : n ≤ 100000) : n ≤ sizeLine := Nat.le_trans h (by decide)
theorem ev_lit {x y : Str} (h : x = y) : Ev (tC (.str x)) σ H (.str y) := ev_is ev_c (by rw [h])
theorem rv_addT {a b : W} (h : a.length + b.length ≤ 100000) : RV rAddT (.str (S a)) (.str (S b)) H (.str (S (a ++ b))) := fun H1 _ Q q =>
  ⟨S a, S b, rfl, rfl, by rw [S_len, S_len]; exact sz h, by rw [S_app]; exact q H1 (Ex.refl H1)⟩
theorem ev_addT {a b : W} (ha : Ev ta σ H (.str (S a))) (hb : Ev tb σ H (.str (S b))) (h : a.length + b.length ≤ 100000) : Ev (tOp rAddT ta tb) σ H (.str (S (a ++ b))) := ev_op ha hb (rv_addT h)
theorem ev_addI {i j : Int} (ha : Ev ta σ H (.int i)) (hb : Ev tb σ H (.int j)) : Ev (tOp rAddI ta tb) σ H (.int (i + j)) := ev_op ha hb rv_I0
theorem ev_subI {i j : Int} (ha : Ev ta σ H (.int i)) (hb : Ev tb σ H (.int j)) : Ev (tOp rSubI ta tb) σ H (.int (i - j)) := ev_op ha hb rv_I0
theorem ev_ltI {i j : Int} (ha : Ev ta σ H (.int i)) (hb : Ev tb σ H (.int j)) : Ev (tOp rLtI ta tb) σ H (.bl (decide (i < j))) := ev_op ha hb rv_I0
theorem ev_leI {i j : Int} (ha : Ev ta σ H (.int i)) (hb : Ev tb σ H (.int j)) : Ev (tOp rLeI ta tb) σ H (.bl (decide (i ≤ j))) := ev_op ha hb rv_I0
theorem ev_gtI {i j : Int} (ha : Ev ta σ H (.int i)) (hb : Ev tb σ H (.int j)) : Ev (tOp rGtI ta tb) σ H (.bl (decide (j < i))) := ev_op ha hb rv_I0
theorem ev_geI {i j : Int} (ha : Ev ta σ H (.int i)) (hb : Ev tb σ H (.int j)) : Ev (tOp rGeI ta tb) σ H (.bl (decide (j ≤ i))) := ev_op ha hb rv_I0
theorem ev_lenT {a : W} (ha : Ev ta σ H (.str (S a))) (h : a.length ≤ 100000) : Ev (tCB rLenT (tCons ta tNil)) σ H (.int (a.length : Int)) := fun H1 e Q q =>
  ha H1 e _ fun H2 e2 => ⟨S a, rfl, by rw [S_len]; exact sz h, by rw [S_len]; exact q H2 e2⟩
theorem ev_lenSL {p : Addr} {xs : List V} (ha : Ev ta σ H (.ref p)) (h : SqL K H p xs) : Ev (tCB (rLenS K) (tCons ta tNil)) σ H (.int (xs.length : Int)) := ev_len ha h
theorem ev_lenST {p : Addr} {xs : List V} (ha : Ev ta σ H (.ref p)) (h : SqT K H p xs) : Ev (tCB (rLenS K) (tCons ta tNil)) σ H (.int (xs.length : Int)) := fun H1 e Q q =>
  ha H1 e _ fun H2 e2 => ⟨p, xs, rfl, Or.inr (ex_t (e.trans e2) h), q H2 e2⟩
theorem ev_slT {a : W} {tl th : TO} {lo hi : Option Int} (ha : Ev te σ H (.str (S a))) (h1 : EvO tl σ H lo) (h2 : EvO th σ H hi) (h : a.length ≤ 100000) : Ev (tSl rSlS te tl th) σ H (.str (S (cutW a lo hi))) := fun H1 e Q q =>
  ha H1 e _ fun H2 e2 => h1 H2 (e.trans e2) _ fun H3 e3 => h2 H3 ((e.trans e2).trans e3) _ fun H4 e4 =>
    ⟨S a, rfl, by rw [S_len]; exact sz h, by rw [S_cut]; exact q H4 ((e2.trans e3).trans e4)⟩
theorem ev_ends {a b : W} (ha : Ev ta σ H (.str (S a))) (hb : Ev tb σ H (.str (S b))) : Ev (tM1 rEnds ta tb) σ H (.bl (endsW a b)) := fun H1 e Q q =>
  ha H1 e _ fun H2 e2 => ⟨⟨S a, rfl⟩, hb H2 (e.trans e2) _ fun H3 e3 => ⟨S a, S b, rfl, rfl, by rw [S_ends]; exact q H3 (e2.trans e3)⟩⟩
theorem ev_eqS {a b : W} (ha : Ev ta σ H (.str (S a))) (hb : Ev tb σ H (.str (S b))) : Ev (tOp rEq ta tb) σ H (.bl (decide (a = b))) := by
  rw [← S_eq]
  exact ev_op ha hb (rv_eq rfl)
theorem ev_neS {a b : W} (ha : Ev ta σ H (.str (S a))) (hb : Ev tb σ H (.str (S b))) : Ev (tOp rNe ta tb) σ H (.bl (!decide (a = b))) := by
  rw [← S_eq]
  exact ev_op ha hb (rv_ne rfl)
theorem dec_int (i j : Int) : decide (V.int i = V.int j) = decide (i = j) := by
  by_cases h : i = j
  · rw [h]
    simp
  · rw [decide_eq_false h, decide_eq_false fun q => h (V.int.inj q)]
theorem ev_eqI {i j : Int} (ha : Ev ta σ H (.int i)) (hb : Ev tb σ H (.int j)) : Ev (tOp rEq ta tb) σ H (.bl (decide (i = j))) := by
  rw [← dec_int]
  exact ev_op ha hb (rv_eq rfl)
theorem ev_neI {i j : Int} (ha : Ev ta σ H (.int i)) (hb : Ev tb σ H (.int j)) : Ev (tOp rNe ta tb) σ H (.bl (!decide (i = j))) := by
  rw [← dec_int]
  exact ev_op ha hb (rv_ne rfl)
theorem ev_isN (ha : Ev ta σ H x) : Ev (tOp rIsN ta (tC .non)) σ H (.bl (decide (x = .non))) := fun H1 e Q q =>
  ha H1 e _ fun H2 e2 => ⟨rfl, q H2 e2⟩
theorem ev_notN (ha : Ev ta σ H x) : Ev (tOp rNotN ta (tC .non)) σ H (.bl (!decide (x = .non))) := fun H1 e Q q =>
  ha H1 e _ fun H2 e2 => ⟨rfl, q H2 e2⟩
theorem ev_max2 {i j : Int} (ha : Ev ta σ H (.int i)) (hb : Ev tb σ H (.int j)) : Ev (tCB rMax2 (tCons ta (tCons tb tNil))) σ H (.int (if j > i then j else i)) := Evl.ev_max2 ha hb
theorem ev_min2 {i j : Int} (ha : Ev ta σ H (.int i)) (hb : Ev tb σ H (.int j)) : Ev (tCB rMinT (tCons ta (tCons tb tNil))) σ H (.int (if j < i then j else i)) := fun H1 e Q q =>
  ha H1 e _ fun H2 e2 => hb H2 (e.trans e2) _ fun H3 e3 => ⟨i, j, rfl, q H3 (e2.trans e3)⟩
/-- a field -/
theorem ev_fld {a C dx : Addr} {fs : List (Str × V)} {f : Str} (ha : Ev ta σ H (.ref a)) (ho : H a = some (.ins C dx fs)) (hc : Cls K C) (hn : NoAttr K C f) (hl : fs.lookup f = some v) : Ev (tFld K ta f) σ H v := fun H1 e Q q =>
  ha H1 e _ fun H2 e2 => ⟨a, C, dx, fs, v, rfl, e2 a _ (e a _ ho), hc, hn, hl, q H2 e2⟩
/-- a method that hands back a value -/
theorem ev_meth {a C dx : Addr} {fs : List (Str × V)} {m : Str} {sp : Sp} {dvs vs : List V} {E : XK} {tr : TA} (ha : Ev ta σ H (.ref a)) (ho : H a = some (.ins C dx fs)) (hl : fs.lookup m = none) (hr : EvA tr σ H vs) (hs : SpV sp (.ref a :: (vs ++ dvs)) H z) :
    Ev (tMeth C m sp dvs E ta tr) σ H z := fun H1 e Q q =>
  ha H1 e _ fun H2 e2 => ⟨a, dx, fs, rfl, e2 a _ (e a _ ho), hl, hr H2 (e.trans e2) _ fun H3 e3 => hs H3 ((e.trans e2).trans e3) Q (fun H4 e4 => q H4 ((e2.trans e3).trans e4)) E⟩
theorem ev_prop {a C dx : Addr} {fs : List (Str × V)} {sp : Sp} {dvs : List V} {E : XK} (ha : Ev ta σ H (.ref a)) (ho : H a = some (.ins C dx fs)) (hs : SpV sp (.ref a :: dvs) H z) : Ev (tProp C sp dvs E ta) σ H z := fun H1 e Q q =>
  ha H1 e _ fun H2 e2 => ⟨a, dx, fs, rfl, e2 a _ (e a _ ho), hs H2 (e.trans e2) Q (fun H4 e4 => q H4 (e2.trans e4)) E⟩
theorem ev_ixL {p : Addr} {xs : List V} {i : Int} (ha : Ev ta σ H (.ref p)) (hb : Ev tb σ H (.int i)) (h : SqL K H p xs) (hv : atI xs i = some v) : Ev (tOp (rIxL K) ta tb) σ H v := ev_op ha hb (rv_ixL h hv)
theorem ev_ixT {p : Addr} {xs : List V} {i : Int} (ha : Ev ta σ H (.ref p)) (hb : Ev tb σ H (.int i)) (h : SqT K H p xs) (hv : atI xs i = some v) : Ev (tOp (rIxT K) ta tb) σ H v := ev_op ha hb (rv_ixT h hv)
theorem atI_nat' {α : Type} {xs : List α} {j : Nat} {x : α} (h : xs[j]? = some x) : atI xs (j : Int) = some x := by
  unfold atI
  rw [ixN_nat (List.getElem?_eq_some_iff.mp h).1]
  exact h
/-- a bit of BITS -/
theorem ev_inS {c : Nat} {w : Str} (ha : Ev ta σ H (.str ⟨#[c]⟩)) (hb : Ev tb σ H (.str w)) : Ev (tOp rInS ta tb) σ H (.bl (decide (c ∈ w.cps.toList))) := fun H1 e Q q =>
  ha H1 e _ fun H2 e2 => hb H2 (e.trans e2) _ fun H3 e3 => ⟨c, w, rfl, rfl, q H3 (e2.trans e3)⟩
theorem ev_notInS {c : Nat} {w : Str} (ha : Ev ta σ H (.str ⟨#[c]⟩)) (hb : Ev tb σ H (.str w)) : Ev (tOp rNotInS ta tb) σ H (.bl (!decide (c ∈ w.cps.toList))) := fun H1 e Q q =>
  ha H1 e _ fun H2 e2 => hb H2 (e.trans e2) _ fun H3 e3 => ⟨c, w, rfl, rfl, q H3 (e2.trans e3)⟩

/-! ### dicts whose keys are words, all to True -/
def dkT (ws : List W) : List (Key × V) := ws.map fun w => (Sum.inr (S w), V.bl true)
theorem dkT_val (ws : List W) (w : W) : (valV (dkT ws) (Sum.inr (S w) : Key)).isSome = decide (w ∈ ws) := by
  induction ws with
  | nil => rfl
  | cons a r ih =>
    unfold dkT valV at ih ⊢
    rw [List.map_cons, List.find?_cons]
    by_cases e : a = w
    · subst e
      simp
    · have e1 : decide ((Sum.inr (S a) : Key) = Sum.inr (S w)) = false := decide_eq_false fun q => e (S_inj (Sum.inr.inj q))
      rw [e1]
      dsimp only
      rw [ih]
      have e2 : (w ∈ a :: r) ↔ (w ∈ r) := by
        rw [List.mem_cons]
        exact ⟨fun h => h.elim (fun q => absurd q.symm e) id, Or.inr⟩
      exact decide_eq_decide.mpr e2.symm
theorem dkT_put {ws : List W} {w : W} (h : w ∉ ws) : putK (dkT ws) (Sum.inr (S w) : Key) (V.bl true) = dkT (ws ++ [w]) := by
  have e := dkT_val ws w
  rw [decide_eq_false h] at e
  rw [putK_new _ (by
    cases q : valV (dkT ws) (Sum.inr (S w) : Key) with
    | none => rfl
    | some v => rw [q] at e; cases e)]
  unfold dkT
  rw [List.map_append]
  rfl
theorem ev_dIn {a : Addr} {ws : List W} {w : W} (hb : Ev tb σ H (.str (S w))) (ha : Ev ta σ H (.ref a)) (hd : H a = some (.dK (dkT ws))) : Ev (tDIn tb ta) σ H (.bl (decide (w ∈ ws))) := fun H1 e Q q =>
  hb H1 e _ fun H2 e2 => ha H2 (e.trans e2) _ fun H3 e3 => ⟨a, valV (dkT ws) (Sum.inr (S w) : Key), rfl, DGet.k (k := Sum.inr (S w)) (((e.trans e2).trans e3) a _ hd), by
    rw [dkT_val]
    exact q H3 (e2.trans e3)⟩
theorem ev_dNotIn {a : Addr} {ws : List W} {w : W} (hb : Ev tb σ H (.str (S w))) (ha : Ev ta σ H (.ref a)) (hd : H a = some (.dK (dkT ws))) : Ev (tDNotIn tb ta) σ H (.bl (!decide (w ∈ ws))) := fun H1 e Q q =>
  hb H1 e _ fun H2 e2 => ha H2 (e.trans e2) _ fun H3 e3 => ⟨a, valV (dkT ws) (Sum.inr (S w) : Key), rfl, DGet.k (k := Sum.inr (S w)) (((e.trans e2).trans e3) a _ hd), by
    rw [dkT_val]
    exact q H3 (e2.trans e3)⟩
end
end Fl

/-! enumerate over a tuple and over a text -/
namespace PySem
open Sem (wp)
set_option maxHeartbeats 1000000 in
theorem fl_meets_enum {v : Value} {o : Obj} {H : Heap → Prop} (B : Begins v o H) :
    Meets (Builtin.«enumerate.__new__» ⟨[.type "enumerate", v], []⟩) (fun _ R s => H s.heap ∧
      R (.ok (.ret (.ref (s.heap.push o).objs.size))) { s with heap := (s.heap.push o).push { cls := .type "enumerate", data := .fields #[.none, .bool false, .ref s.heap.objs.size, rawInt 0, .none, .none] } }) :=
  .of_wp fun prog w A R s h => by
    obtain ⟨hp, g, d, tk, os⟩ := s; obtain ⟨h1, h⟩ := h
    have hsub := sub_enumerate
    have q1 : ∀ {A' : Around} {E : Value → Shared → Prop} {Q : Value → Shared → Prop}, Q (.ref hp.objs.size) ⟨hp.push o, g, d, tk, os⟩ → wpAny (model prog w) A' (pyIter v) Q E ⟨hp, g, d, tk, os⟩ :=
      fun q => B.iter prog w _ _ ⟨hp, g, d, tk, os⟩ _ h1 q
    wp_walk using q1
    refine wpAny_stack_any fun st => wpAny_pure ?_
    split
    · rename_i c _ _ _ _ _
      cases (c == Value.type "enumerate")
      · wp_walk using q1
        exact ⟨_, rfl, h⟩
      · wp_walk using q1
        exact ⟨_, rfl, h⟩
    · wp_walk using q1
      exact ⟨_, rfl, h⟩
section
variable {prog : Program} {w : World} {A : Around} {E : Value → Shared → Prop} {s : Shared}
theorem fl_enum_begins {v : Value} {o : Obj} {H : Heap → Prop} {Q : Value → Shared → Prop} (B : Begins v o H) (h1 : H s.heap)
    (h : ∀ h', IsEnum h' (s.heap.objs.size + 1) s.heap.objs.size 0 .none → h'.get? s.heap.objs.size = some o → h'.objs.size = s.heap.objs.size + 2 →
      (∀ b o, s.heap.get? b = some o → h'.get? b = some o) → Q (.ref (s.heap.objs.size + 1)) { s with heap := h' }) :
    wpAny (model prog w) A (call (.type "enumerate") [v]) Q E s := by
  refine callType_new F.called_enumerate (by decide) (F.typeCall_enumerate_1 _) (F.newCall_enumerate_1 _) (fun obj => F.args_object_init_2 obj _) F.entry_enumerate_new
    (fl_meets_enum B) ⟨h1, ?_⟩
  have hz : (s.heap.push o).objs.size = s.heap.objs.size + 1 := Heap.size_push ..
  show _ ∧ _
  rw [hz]
  have he : IsEnum ((s.heap.push o).push { cls := .type "enumerate", data := .fields #[.none, .bool false, .ref s.heap.objs.size, rawInt 0, .none, .none] }) (s.heap.objs.size + 1) s.heap.objs.size 0 .none := by
    have := Heap.get?_push_size (s.heap.push o) (o := { cls := .type "enumerate", data := .fields #[.none, .bool false, .ref s.heap.objs.size, rawInt 0, .none, .none] }) rfl
    rw [hz] at this; exact this
  refine ⟨⟨_, he, rfl⟩, h _ he (Heap.get?_push_of_some _ (Heap.get?_push_size _ B.free)) (by rw [Heap.size_push, hz]) fun b o x => Heap.get?_push_of_some _ (Heap.get?_push_of_some _ x)⟩
end
end PySem
namespace L2
open PySem PySem.Spec PyProof.Rows
/-- enumerate: the turn's pair is new; g tells where the walk goes on, y the item, z where it stops -/
def ItE (g : Nat → Hp → Prop) (y : Nat → Hp → V → Prop) (z : Nat → Hp → Prop) : It :=
  ⟨g, fun i H v H' => ∃ T x, v = .ref T ∧ H T = none ∧ H' = upd H T (.tup [.int (i : Nat), x]) ∧ y i H x, z⟩
theorem turn_enumD {P : Program} {w : World} {K : PySem.W.Frag} {elts : List Expr} {kk : Nat} {tpos : Pos} {g : Nat → Hp → Prop} {y : Nat → Hp → V → Prop} {z : Nat → Hp → Prop} (e it : Addr) (ti : Nat → Heap → Prop)
    (hlive : ∀ i h, ti i h → ∃ o, h.get? it = some o ∧ ∀ v, o.data ≠ .cell v)
    (hkeep : ∀ i h h', ti i h → (∀ o, h.get? it = some o → h'.get? it = some o) → ti i h')
    (hd : ∀ (X : Cx), X.prog = P → X.w = w → X.K = K → X.calm = true → ∀ (i : Nat) (pins : List (Addr × Obj)) (s : Shared) (σ : St) (H : Hp), Inv X pins σ H s → ti i s.heap → e ≠ it → (g i H ∨ z i H) →
      ∃ (fp : List Addr) (n : Nat) (Pp : Nat → Value → Prop) (St' : Nat → Heap → Prop), Draws P w X.A.in1 it fp n Pp St' ∧ St' i s.heap ∧ e ∉ fp ∧ (g i H → i < n ∧ ∀ u, Pp i u → ∃ x, RelV x u ∧ y i H x) ∧ (z i H → i = n) ∧ ∀ j h, St' j h → ti j h) :
    Turn P w K (.Tuple elts kk tpos) (ItE g y z) [e, it] e (fun i h => (∃ old, IsEnum h e it ((i : Nat) : Int) old) ∧ ti i h ∧ e ≠ it) where
  mem := by simp
  obj := fun i h st b hb => by
    obtain ⟨⟨old, he⟩, ht, _⟩ := st
    have e' : b = e ∨ b = it := by simpa using hb
    rcases e' with z | z
    · rw [z]; exact ⟨_, he, fun v q => nomatch q⟩
    · rw [z]; exact hlive i h ht
  keep := fun i h h' st k => let ⟨⟨old, he⟩, hi, hne⟩ := st; ⟨⟨old, k e (by simp) _ he⟩, hkeep _ _ _ hi fun o q => k it (by simp) o q, hne⟩
  item := by
    intro X hP hw hK hc i pins s σ H E I hf st hg
    obtain ⟨⟨old, he⟩, hit, hne⟩ := st
    obtain ⟨fp, n, Pp, St', D, hst, hef, hgo, _, hti⟩ := hd X hP hw hK hc i pins s σ H I hit hne (.inl hg)
    subst hP hw hK
    obtain ⟨hlt, hx⟩ := hgo hg
    have hel : e < s.heap.objs.size := Heap.lt_size he
    have hil : it < s.heap.objs.size := by obtain ⟨_, q, _⟩ := hlive _ _ hit; exact Heap.lt_size q
    refine wpAny_pyNext_enum_itemD D he hst hlt hne hef fun u h' tk hP ho hst' hT hsz hk => ?_
    obtain ⟨x, ru, hy⟩ := hx u hP
    refine ⟨_, rfl, wpAny_letOwnedTupleGo_enum (s := { s with heap := h', toks := tk + 1 }) ho fun h'' he' sb => ?_⟩
    have hT2 : h''.get? s.heap.objs.size = some { cls := .type "tuple", data := .seq #[.int i tk, u] } := (sb.2 _ (Nat.ne_of_gt hel)).trans hT
    have new : ObjOk X.prog X.w (upd H s.heap.objs.size (.tup [.int (i : Nat), x])) h'' s.heap.objs.size (.tup [.int (i : Nat), x]) :=
      ⟨by show 2 ≤ sizeLine; decide, [.int i tk, u], .cons ⟨_, rfl⟩ (.cons ru .nil), ⟨_, hT2, rfl, _, rfl⟩⟩
    have I1 : Inv X pins σ (upd H s.heap.objs.size (.tup [.int (i : Nat), x])) { s with heap := h'', toks := tk + 1 } :=
      I.turnedNew (ch := [e, it]) (fun b ob hb q => (sb.2 b (fun z => hb (by simp [z]))).trans (hk b ob (fun z => hb (by simp [z])) (fun z => hb (by simp [z])) q)) hf (Nat.le_refl _) new
    refine ⟨.ref s.heap.objs.size, _, I1, rfl, ⟨_, x, rfl, I.hok.fresh (Nat.le_refl _), rfl, hy⟩, ⟨⟨u, ?_⟩, hkeep _ _ _ (hti _ _ hst') (fun o q => (sb.2 it (Ne.symm hne)).trans q), hne⟩, fun b hb => ?_⟩
    · have e1 : ((i + 1 : Nat) : Int) = (i : Int) + 1 := by omega
      rw [e1]; exact he'
    · have hb' : b < s.heap.objs.size := by
        have e' : b = e ∨ b = it := by simpa using hb
        rcases e' with z | z
        · rw [z]; exact hel
        · rw [z]; exact hil
      rw [upd_ne (Nat.ne_of_lt hb')]
      exact (hf b hb).1
  done := by
    intro X hP hw hK hc i pins s σ H E I hf st hg
    obtain ⟨⟨old, he⟩, hit, hne⟩ := st
    obtain ⟨fp, n, Pp, St', D, hst, hef, _, hz, _⟩ := hd X hP hw hK hc i pins s σ H I hit hne (.inr hg)
    subst hP hw hK
    have en := hz hg
    subst en
    obtain ⟨f0, f1, f2, f3, f4, f5⟩ := hf it (by simp)
    exact wpAny_pyNext_enum_endD D he hst fun h' eb => ⟨rfl, I.turned (t' := s.toks) (fun b o hb q => eb b o hb q) f0 f1 f3 f4 f5⟩
  self := fun A i s Q E st h => let ⟨⟨_, he⟩, _⟩ := st; wpAny_pyIter_enum he h

/-- the tuple at a -/
def IteT (K : PySem.W.Frag) (a : Addr) : It := ItE (fun i H => ∃ (xs : List V) (x : V), SqT K H a xs ∧ xs[i]? = some x) (fun i H x => ∀ xs, SqT K H a xs → xs[i]? = some x) (fun i H => ∃ xs : List V, SqT K H a xs ∧ xs.length = i)
theorem IsTup.isTuple {h : Heap} {a : Addr} {its : Array Value} (p : IsTup h a its) : h.IsTuple a its := by
  obtain ⟨o, h1, h2, n, h3⟩ := p
  exact ⟨o, h1, h2, n, h3⟩
theorem turn_enumT {P : Program} {w : World} {K : PySem.W.Frag} {elts : List Expr} {kk : Nat} {tpos : Pos} (a e it : Addr) (ha : a ≠ it) (hae : a ≠ e) :
    Turn P w K (.Tuple elts kk tpos) (IteT K a) [e, it] e (fun i h => (∃ old, IsEnum h e it ((i : Nat) : Int) old) ∧ h.IsTupleIter it a i ∧ e ≠ it) := by
  refine turn_enumD e it (fun i h => h.IsTupleIter it a i) (fun i h st => ?_) (fun i h h' st k => ?_) ?_
  · obtain ⟨o, ho, hc, hd⟩ := st
    exact ⟨o, ho, fun v q => by rw [hd] at q; cases q⟩
  · obtain ⟨o, ho, r⟩ := st
    exact ⟨o, k o ho, r⟩
  · intro X hP hw hK hc i pins s σ H I hti hne hgz
    subst hP hw hK
    obtain ⟨xs, hq⟩ : ∃ xs, SqT X.K H a xs := by
      rcases hgz with ⟨xs, x, hq, _⟩ | ⟨xs, hq, _⟩
      · exact ⟨xs, hq⟩
      · exact ⟨xs, hq⟩
    obtain ⟨its, rv, p, hz⟩ := I.tuple hq
    have hl := rv.length
    refine ⟨[it, a], its.toArray.size, _, _, Draws.tuple (A := X.A.in1) (show X.A.in1.handled = none from I.ok.hd hc) it a ha its.toArray, ⟨hti, IsTup.isTuple p⟩, ?_, fun hg => ?_, fun hg => ?_, fun j h st => st.1⟩
    · intro hm
      have e' : e = it ∨ e = a := by simpa using hm
      rcases e' with z | z
      · exact hne z
      · exact hae z.symm
    · obtain ⟨ys, x, hy, hx⟩ := hg
      have e1 := I.tuple_inj hy hq
      subst e1
      have hi := (List.getElem?_eq_some_iff.mp hx).1
      refine ⟨by simp only [List.size_toArray]; omega, fun u hu => ?_⟩
      obtain ⟨u', hu', ru⟩ := rv.get hx
      have e2 : u' = u := by
        have h1 : its.toArray[i]? = some u := hu
        rw [List.getElem?_toArray, hu'] at h1
        exact Option.some.inj h1
      subst e2
      exact ⟨x, ru, fun zs hzs => by rw [I.tuple_inj hzs hq]; exact hx⟩
    · obtain ⟨ys, hy, hn⟩ := hg
      have e1 := I.tuple_inj hy hq
      subst e1
      simp only [List.size_toArray]
      omega
def iEnumT (K : PySem.W.Frag) (ta : TA) : TI := fun σ H R => ta σ H fun vs H1 => ∃ a xs, vs = [.ref a] ∧ SqT K H1 a xs ∧ R (IteT K a) H1
theorem pi_enumT {X : Cx} {e : Expr} {ta : TA} {p pos tpos : Pos} {elts : List Expr} {kk : Nat} (hg : Gl X "enumerate") (hm : X.mg "enumerate" = none) (ha : PA X [e] ta) (hs : starEach [e] X.env = [(false, eval e X.env)] := by rfl) :
    PI X (.Tuple elts kk tpos) (.Call (.Name "enumerate" p) [e] [] pos) (iEnumT X.K ta) := by
  refine ⟨fun pins s σ H R I h => ?_⟩
  refine Call_ (ld_blt I hg hm boot_enumerate (PyProof.Rows.callWith_type1 (thn (ha.run pos pins s σ H _ I h) fun us s1 ⟨vs, H1, I1, r1, q1⟩ => ?_) hs rfl))
  obtain ⟨a, xs, ex, hq, q⟩ := q1
  subst ex
  cases r1 with
  | cons r rr =>
    cases rr
    cases r
    obtain ⟨its, rv, p', hz⟩ := I1.tuple hq
    have hal : a < s1.heap.objs.size := by
      obtain ⟨o, h1, _⟩ := p'
      exact Heap.lt_size h1
    refine fl_enum_begins (begins_tuple a its.toArray) (IsTup.isTuple p') fun h' he hit hsz hk => wpAny_pyIter_enum he ?_
    have I2 : Inv X pins σ H1 { s1 with heap := h' } := I1.kept (t' := s1.toks) hk
    refine ⟨s1.heap.objs.size + 1, [s1.heap.objs.size + 1, s1.heap.objs.size], _, _, H1, rfl, I2, turn_enumT a (s1.heap.objs.size + 1) s1.heap.objs.size (Nat.ne_of_lt hal) (Nat.ne_of_lt (Nat.lt_succ_of_lt hal)), ⟨⟨.none, he⟩, ⟨_, hit, rfl, rfl⟩, Nat.succ_ne_self _⟩, fun b hb => ?_, q⟩
    have e' : b = s1.heap.objs.size + 1 ∨ b = s1.heap.objs.size := by simpa using hb
    have hle : s1.heap.objs.size ≤ b := by
      rcases e' with z | z
      · rw [z]; exact Nat.le_add_right _ _
      · rw [z]; exact Nat.le_refl _
    exact I1.fpOk hle (I1.hok.fresh hle)
theorem walk_enumT {K : PySem.W.Frag} {a : Addr} {xs : List V} : Walk (IteT K a) xs.length (fun H => SqT K H a xs) (YPair (fun i => some (.int (i : Nat))) (fun i => xs[i]?)) := by
  refine ⟨fun i _ hi q => ⟨xs, xs[i], q, by simp [hi]⟩, fun _ q => ⟨xs, q, rfl⟩, fun i H v H' _ q y => ?_⟩
  obtain ⟨T, x, h1, h2, h3, h4⟩ := y
  exact ⟨T, .int (i : Nat), x, h1, h2, h3, rfl, h4 xs q⟩
/-- the signs of a text -/
def IteS (z : Str) : It := ItE (fun i _ => i < z.cps.size) (fun i _ x => ∃ c, z.cps[i]? = some c ∧ x = .str ⟨#[c]⟩) (fun i _ => z.cps.size = i)
theorem turn_enumS {P : Program} {w : World} {K : PySem.W.Frag} {elts : List Expr} {kk : Nat} {tpos : Pos} (z : Str) (t : Tok) (e it : Addr) :
    Turn P w K (.Tuple elts kk tpos) (IteS z) [e, it] e (fun i h => (∃ old, IsEnum h e it ((i : Nat) : Int) old) ∧ h.IsStrIter it (strIterType z) z t i ∧ e ≠ it) := by
  refine turn_enumD e it (fun i h => h.IsStrIter it (strIterType z) z t i) (fun i h st => ?_) (fun i h h' st k => ?_) ?_
  · obtain ⟨o, ho, hc, hd⟩ := st
    exact ⟨o, ho, fun v q => by rw [hd] at q; cases q⟩
  · obtain ⟨o, ho, r⟩ := st
    exact ⟨o, k o ho, r⟩
  · intro X hP hw hK hc i pins s σ H I hti hne hgz
    subst hP hw hK
    refine ⟨[it], z.cps.size, _, _, Draws.text (A := X.A.in1) (show X.A.in1.handled = none from I.ok.hd hc) it z t, hti, ?_, fun hg => ⟨hg, fun u hu => ?_⟩, fun hg => hg.symm, fun j h st => st⟩
    · intro hm
      exact hne (by simpa using hm)
    · obtain ⟨c, tk, hcx, rfl⟩ := hu
      exact ⟨.str ⟨#[c]⟩, ⟨tk, rfl⟩, c, hcx, rfl⟩
def iEnumS (ta : TA) : TI := fun σ H R => ta σ H fun vs H1 => ∃ z, vs = [.str z] ∧ R (IteS z) H1
theorem pi_enumS {X : Cx} {e : Expr} {ta : TA} {p pos tpos : Pos} {elts : List Expr} {kk : Nat} (hg : Gl X "enumerate") (hm : X.mg "enumerate" = none) (ha : PA X [e] ta) (hs : starEach [e] X.env = [(false, eval e X.env)] := by rfl) :
    PI X (.Tuple elts kk tpos) (.Call (.Name "enumerate" p) [e] [] pos) (iEnumS ta) := by
  refine ⟨fun pins s σ H R I h => ?_⟩
  refine Call_ (ld_blt I hg hm boot_enumerate (PyProof.Rows.callWith_type1 (thn (ha.run pos pins s σ H _ I h) fun us s1 ⟨vs, H1, I1, r1, q1⟩ => ?_) hs rfl))
  obtain ⟨z, ex, q⟩ := q1
  subst ex
  cases r1 with
  | cons r rr =>
    cases rr
    obtain ⟨t, rfl⟩ := r
    refine call_enumerate_str fun h' he hit hsz hk => wpAny_pyIter_enum he ?_
    have I2 : Inv X pins σ H1 { s1 with heap := h' } := I1.kept (t' := s1.toks) hk
    refine ⟨s1.heap.objs.size + 1, [s1.heap.objs.size + 1, s1.heap.objs.size], _, _, H1, rfl, I2, turn_enumS z t (s1.heap.objs.size + 1) s1.heap.objs.size, ⟨⟨.none, he⟩, hit, Nat.succ_ne_self _⟩, fun b hb => ?_, q⟩
    have e' : b = s1.heap.objs.size + 1 ∨ b = s1.heap.objs.size := by simpa using hb
    have hle : s1.heap.objs.size ≤ b := by
      rcases e' with z | z
      · rw [z]; exact Nat.le_add_right _ _
      · rw [z]; exact Nat.le_refl _
    exact I1.fpOk hle (I1.hok.fresh hle)
theorem walk_enumS {z : Str} : Walk (IteS z) z.cps.size (fun _ => True) (YPair (fun i => some (.int (i : Nat))) (fun i => z.cps[i]?.map fun c => .str ⟨#[c]⟩)) := by
  refine ⟨fun i _ hi _ => hi, fun _ _ => rfl, fun i H v H' _ _ y => ?_⟩
  obtain ⟨T, x, h1, h2, h3, c, h4, h5⟩ := y
  exact ⟨T, .int (i : Nat), x, h1, h2, h3, rfl, by show Option.map _ z.cps[i]? = _; rw [h4, h5]; rfl⟩
/-- either of two kinds of things walked -/
theorem PI.or {X : Cx} {tg e : Expr} {w1 w2 : TI} (h1 : PI X tg e w1) (h2 : PI X tg e w2) : PI X tg e (fun σ H R => w1 σ H R ∨ w2 σ H R) :=
  ⟨fun pins s σ H R I h => h.elim (fun q => h1.run pins s σ H R I q) (fun q => h2.run pins s σ H R I q)⟩
theorem PS.nox {X : Cx} {st : Stmt} {t : TS} (h : PS X.nox st t) : PS X st t := ⟨fun pins s σ H D I hw =>
  wpAny_mono (h.run pins s σ H D (I.wish _) hw) (fun f s1 q => by
    cases f with
    | next => obtain ⟨σ', H', I', q⟩ := q; exact ⟨σ', H', I'.unwish, q⟩
    | brk => obtain ⟨σ', H', I', q⟩ := q; exact ⟨σ', H', I'.unwish, q⟩
    | cont => obtain ⟨σ', H', I', q⟩ := q; exact ⟨σ', H', I'.unwish, q⟩
    | ret u => obtain ⟨v, σ', H', I', q⟩ := q; exact ⟨v, σ', H', I'.unwish, q⟩) fun _ _ z => z.elim⟩
end L2

namespace Fl
open PySem L2 Evl TL StX
section
variable {K : PySem.W.Frag} {σ : L2.St} {H H' : Hp} {ta tb te tl : TE} {tt : TT} {wi : TI} {g : TG} {n : Nat} {G : Hp → Prop} {Y : Nat → Hp → V → Hp → Prop} {D : Ends} {tu tz : TS} {vs : List Nat}
/-- what a for or a comprehension walks -/
def Src (wi : TI) (σ : L2.St) (H : Hp) (n : Nat) (G : Hp → Prop) (Y : Nat → Hp → V → Hp → Prop) : Prop :=
  ∀ H1, Ex H H1 → ∀ R : It → Hp → Prop, (∀ J H2, Ex H1 H2 → Walk J n G Y → R J H2) → wi σ H1 R
theorem src_list {a : Addr} {xs : List V} (h : Ev tl σ H (.ref a)) (hx : SqL K H a xs) : Src (iList K tl) σ H xs.length (fun H => SqL K H a xs) (YAt xs) := fun H1 e R q =>
  h H1 e _ fun H2 e2 => ⟨a, rfl, ⟨xs, ex_l (e.trans e2) hx⟩, q _ H2 e2 walk_list⟩
theorem src_tup {a : Addr} {xs : List V} (h : Ev tl σ H (.ref a)) (hx : SqT K H a xs) : Src (iTup K tl) σ H xs.length (fun H => SqT K H a xs) (YAt xs) := fun H1 e R q =>
  h H1 e _ fun H2 e2 => ⟨a, rfl, ⟨xs, ex_t (e.trans e2) hx⟩, q _ H2 e2 walk_tup⟩
/-- a word, bit by bit -/
def YBit (w : W) : Nat → Hp → V → Hp → Prop := fun i H x H' => H' = H ∧ ∃ b, w[i]? = some b ∧ x = .str (S [b])
theorem src_word {w : W} (h : Ev te σ H (.str (S w))) : Src (iStr te) σ H w.length (fun _ => True) (YBit w) := fun H1 e R q =>
  h H1 e _ fun H2 e2 => ⟨S w, rfl, q _ H2 e2 (by
    have z : (S w).cps.size = w.length := S_len w
    have k : Walk (Its (S w)) (S w).cps.size (fun _ => True) (fun i H v H' => H' = H ∧ ∃ c, (S w).cps[i]? = some c ∧ v = .str ⟨#[c]⟩) := walk_str
    rw [z] at k
    refine k.mono (fun _ h => h) fun i H x H' hi _ y => ?_
    obtain ⟨h1, c, h2, h3⟩ := y
    refine ⟨h1, w[i], by simp [hi], ?_⟩
    have e1 : (S w).cps[i]? = some (bc w[i]) := by
      show (w.map bc).toArray[i]? = _
      rw [List.getElem?_toArray, List.getElem?_map]
      simp [hi]
    rw [e1] at h2
    have h2' := Option.some.inj h2
    rw [h3, ← h2']
    rfl)⟩
theorem src_rng1 {ta : TA} {k : Nat} (h : EvA ta σ H [.int (k : Int)]) (hk : k ≤ 100000) : Src (iRng1 ta) σ H k (fun _ => True) (YFn fun i => .int (i : Nat)) := fun H1 e R q =>
  h H1 e _ fun H2 e2 => ⟨k, rfl, by omega, by omega, q _ H2 e2 (by
    have w : Walk (Itr 0 (k : Int).toNat) (k : Int).toNat (fun _ => True) (YFn fun i => .int (0 + (i : Nat))) := walk_range
    rw [Int.toNat_natCast] at w ⊢
    refine w.mono (fun _ h => h) fun i H x H' _ _ y => ⟨y.1, by rw [y.2]; show V.int (0 + (i : Int)) = V.int (i : Int); rw [Int.zero_add]⟩)⟩
theorem src_enumL {ta : TA} {a : Addr} {xs : List V} (h : EvA ta σ H [.ref a]) (hx : SqL K H a xs) : Src (iEnum K ta) σ H xs.length (fun H => SqL K H a xs) (YPair (fun i => some (.int (i : Nat))) (fun i => xs[i]?)) := fun H1 e R q =>
  h H1 e _ fun H2 e2 => ⟨a, xs, rfl, ex_l (e.trans e2) hx, q _ H2 e2 walk_enum⟩
theorem src_enumT {ta : TA} {a : Addr} {xs : List V} (h : EvA ta σ H [.ref a]) (hx : SqT K H a xs) : Src (iEnumT K ta) σ H xs.length (fun H => SqT K H a xs) (YPair (fun i => some (.int (i : Nat))) (fun i => xs[i]?)) := fun H1 e R q =>
  h H1 e _ fun H2 e2 => ⟨a, xs, rfl, ex_t (e.trans e2) hx, q _ H2 e2 walk_enumT⟩
/-- what is walked is one of two kinds -/
theorem src_or1 {w1 w2 : TI} (h : Src w1 σ H n G Y) : Src (fun σ H R => w1 σ H R ∨ w2 σ H R) σ H n G Y := fun H1 e R q => .inl (h H1 e R q)
theorem src_or2 {w1 w2 : TI} (h : Src w2 σ H n G Y) : Src (fun σ H R => w1 σ H R ∨ w2 σ H R) σ H n G Y := fun H1 e R q => .inr (h H1 e R q)

/-! ### targets -/
theorem g_name {i : Nat} {v : V} {Q : L2.St → Hp → Prop} (h : Q (σ.set i (some v)) H) : gName i v σ H Q := h
theorem g_two {i j : Nat} {p : Addr} {u v : V} {Q : L2.St → Hp → Prop} (hp : SqT K H p [u, v]) (h : Q ((σ.set i (some u)).set j (some v)) H) : gTup K 2 (gCons (gName i) (gCons (gName j) gNil)) (.ref p) σ H Q :=
  ⟨p, [u, v], rfl, hp, rfl, u, [v], rfl, v, [], rfl, rfl, h⟩

/-! ### for -/
/-- a for by what holds ahead of each turn -/
theorem s_for (hs : Src wi σ H n G Y) (Pv : Nat → L2.St → Hp → Prop) (h0 : ∀ H1, Ex H H1 → Pv 0 σ H1) (hG : ∀ i σ' H', i ≤ n → Pv i σ' H' → G H')
    (turn : ∀ i x σ' H1 H2, i < n → Pv i σ' H1 → Y i H1 x H2 → g x σ' H2 fun σ2 H3 => tu { D with nx := Pv (i + 1), ct := Pv (i + 1), bk := D.nx } σ2 H3) (done : ∀ σ' H', Pv n σ' H' → D.nx σ' H') : tFor wi g tu D σ H :=
  hs H (Ex.refl H) _ fun J H2 e w => for_it w Pv (h0 H2 e) hG (fun i x σ' H1 H' hi p y => turn i x σ' H1 H' hi p y) done
theorem q_for (hs : Src wi σ H n G Y) (Pv : Nat → L2.St → Hp → Prop) (h0 : ∀ H1, Ex H H1 → Pv 0 σ H1) (hG : ∀ i σ' H', i ≤ n → Pv i σ' H' → G H')
    (turn : ∀ i x σ' H1 H2, i < n → Pv i σ' H1 → Y i H1 x H2 → g x σ' H2 fun σ2 H3 => tu { D with nx := Pv (i + 1), ct := Pv (i + 1), bk := tz D } σ2 H3) (done : ∀ σ' H', Pv n σ' H' → tz D σ' H') : tSeq (tFor wi g tu) tz D σ H :=
  s_for (D := { D with nx := tz D }) hs Pv h0 hG turn done

/-! ### comprehensions, over data -/
theorem take_filter_yes {α : Type} {l : List α} {i : Nat} {s : α} {f : α → Bool} (h : l[i]? = some s) (hf : f s = true) : (l.take (i + 1)).filter f = (l.take i).filter f ++ [s] := by
  obtain ⟨hi, e⟩ := List.getElem?_eq_some_iff.mp h
  rw [List.take_succ_eq_append_getElem hi, List.filter_append, e]
  simp [hf]
theorem take_filter_no {α : Type} {l : List α} {i : Nat} {s : α} {f : α → Bool} (h : l[i]? = some s) (hf : f s = false) : (l.take (i + 1)).filter f = (l.take i).filter f := by
  obtain ⟨hi, e⟩ := List.getElem?_eq_some_iff.mp h
  rw [List.take_succ_eq_append_getElem hi, List.filter_append, e]
  simp [hf]
/-- [F s for s in l if f s]: a turn as it stands over any heap that goes on from H -/
theorem el_lcD {α : Type} (l : List α) (f : α → Bool) (F : α → V) (hs : Src wi σ H l.length G Y) (hG : ∀ H', Ex H H' → G H') (hz : l.length ≤ 40000)
    (turn : ∀ i s x H1 H2, l[i]? = some s → Ex H H1 → Y i H1 x H2 → Ex H1 H2 ∧ ∃ σ2, (∀ Q : L2.St → Hp → Prop, Q σ2 H2 → g x (wipe σ vs) H2 Q) ∧ wipe σ2 vs = wipe σ vs ∧ EvT tt σ2 H2 (f s) ∧ (f s = true → Ev te σ2 H2 (F s))) :
    EvL (tLc wi g tt te vs) σ H ((l.filter f).map F) := fun H0 e0 Q q => hs H0 e0 _ fun J H1 e1 w => fun Dl hD => by
  have hle : ∀ i, ((l.take i).filter f).length ≤ 40000 := fun i => by
    have h1 := List.length_filter_le f (l.take i)
    rw [List.length_take] at h1
    omega
  refine lc_it w (fun i H' => Ex H1 H' ∧ H' Dl = some (.lst (((l.take i).filter f).map F))) ⟨Ex.new hD, ?_⟩ (fun i H' _ p => hG H' ((e0.trans e1).trans p.1)) ?_ ?_
  · rw [List.take_zero]
    exact upd_same
  · rintro i x Ha Hb hi ⟨p1, p2⟩ y
    obtain ⟨s, hs'⟩ : ∃ s, l[i]? = some s := ⟨l[i], by simp [hi]⟩
    obtain ⟨eab, σ2, hg, hw, ht, hv⟩ := turn i s x Ha Hb hs' ((e0.trans e1).trans p1) y
    refine hg _ ⟨hw, ht Hb (Ex.refl Hb) _ fun Hc ec => ?_⟩
    have pD : Hc Dl = some (.lst (((l.take i).filter f).map F)) := ec _ _ (eab _ _ p2)
    cases hf : f s with
    | true =>
      show te σ2 Hc fun y H4 => ∃ acc, H4 Dl = some (.lst acc) ∧ acc.length < sizeLine ∧ _
      refine hv hf Hc ec _ fun Hd ed => ⟨_, ed _ _ pD, sz_lt (by rw [List.length_map]; have := hle i; omega), Ex.mut (((p1.trans eab).trans ec).trans ed) hD, ?_⟩
      rw [take_filter_yes hs' hf, List.map_append]
      exact upd_same
    | false =>
      show Ex H1 Hc ∧ _
      refine ⟨(p1.trans eab).trans ec, ?_⟩
      rw [take_filter_no hs' hf]
      exact pD
  · rintro H' ⟨p1, p2⟩
    rw [List.take_length] at p2
    exact q Dl H' (fresh_back e1 hD) (e1.trans p1) p2
theorem et_yes : EvT tYes σ H true := fun H1 _ _ q => q H1 (Ex.refl H1)
/-- without a test -/
theorem el_lcM {α : Type} (l : List α) (F : α → V) (hs : Src wi σ H l.length G Y) (hG : ∀ H', Ex H H' → G H') (hz : l.length ≤ 40000)
    (turn : ∀ i s x H1 H2, l[i]? = some s → Ex H H1 → Y i H1 x H2 → Ex H1 H2 ∧ ∃ σ2, (∀ Q : L2.St → Hp → Prop, Q σ2 H2 → g x (wipe σ vs) H2 Q) ∧ wipe σ2 vs = wipe σ vs ∧ Ev te σ2 H2 (F s)) :
    EvL (tLc wi g tYes te vs) σ H (l.map F) := by
  have e : l.map F = (l.filter fun _ => true).map F := by rw [List.filter_eq_self.mpr (fun _ _ => rfl)]
  rw [e]
  refine el_lcD l (fun _ => true) F hs hG hz fun i s x H1 H2 h1 h2 h3 => ?_
  obtain ⟨a, σ2, b, c, d⟩ := turn i s x H1 H2 h1 h2 h3
  exact ⟨a, σ2, b, c, et_yes, fun _ => d⟩

theorem el_is {xs ys : List V} (h : EvL te σ H xs) (e : xs = ys) : EvL te σ H ys := e ▸ h
theorem eu_is {xs ys : List V} (h : EvU te σ H xs) (e : xs = ys) : EvU te σ H ys := e ▸ h
/-! ### built-ins over lists made on the way -/
theorem ev_all {bs : List Bool} (h : EvL te σ H (bs.map V.bl)) : Ev (tCB (rAll K) (tCons te tNil)) σ H (.bl (bs.all id)) := fun H1 e Q q =>
  h H1 e _ fun p H2 _ e2 hp => ⟨p, bs, rfl, sq_of hp, q H2 e2⟩
theorem ev_any {bs : List Bool} (h : EvL te σ H (bs.map V.bl)) : Ev (tCB (rAny K) (tCons te tNil)) σ H (.bl (bs.any id)) := fun H1 e Q q =>
  h H1 e _ fun p H2 _ e2 hp => ⟨p, bs, rfl, sq_of hp, q H2 e2⟩
theorem ev_maxL {ns : List Int} {m : Int} (h : EvL te σ H (ns.map V.int)) (h0 : 0 < ns.length) (hm : m ∈ ns) (hge : ∀ y ∈ ns, y ≤ m) : Ev (tCB (rMax K) (tCons te tNil)) σ H (.int m) := fun H1 e Q q =>
  h H1 e _ fun p H2 _ e2 hp => ⟨p, ns, rfl, sq_of hp, h0, fun m' hm' hg' => by
    have e3 : m' = m := Int.le_antisymm (hge m' hm') (hg' m hm)
    rw [e3]
    exact q H2 e2⟩
/-- arguments some of which are new lists spread out: [e, *xs, ..] -/
theorem ea_star {ys xs : List V} {tr : TA} (h : EvL te σ H ys) (hr : EvA tr σ H xs) : EvA (tStar K te tr) σ H (ys ++ xs) := fun H1 e Q q =>
  h H1 e _ fun p H2 _ e2 hp => ⟨p, ys, rfl, .inr (sq_of hp), hr H2 (e.trans e2) _ fun H3 e3 => q H3 (e2.trans e3)⟩
theorem ea_starR {p : Addr} {ys xs : List V} {tr : TA} (h : Ev te σ H (.ref p)) (hq : SqT K H p ys ∨ SqL K H p ys) (hr : EvA tr σ H xs) : EvA (tStar K te tr) σ H (ys ++ xs) := fun H1 e Q q =>
  h H1 e _ fun H2 e2 => ⟨p, ys, rfl, hq.elim (fun z => .inl (ex_t (e.trans e2) z)) (fun z => .inr (ex_l (e.trans e2) z)), hr H2 (e.trans e2) _ fun H3 e3 => q H3 (e2.trans e3)⟩

/-! ### dicts made on the way; x += y of texts -/
def EvD (te : TE) (σ : L2.St) (H : Hp) (kvs : List (Key × V)) : Prop := ∀ H1, Ex H H1 → ∀ Q : VK, (∀ p H2, H1 p = none → Ex H1 H2 → H2 p = some (.dK kvs) → Q (.ref p) H2) → te σ H1 Q
theorem ed_new : EvD tDNewK σ H [] := fun H1 _ Q q => fun p hp => q p _ hp (Ex.new hp) upd_same
theorem ed_disp1 {x : Str} {w : W} (h : x = S w) : EvD (tDisp [((tC (.str x)), (tC (.bl true)))]) σ H (dkT [w]) := fun H1 _ Q q => fun p hp => by
  refine ⟨upd_same, [(Sum.inr x, .bl true)], rfl, by show 1 ≤ 15; decide, ?_⟩
  rw [h]
  refine q p _ hp ?_ upd_same
  rw [upd_upd]
  exact Ex.new hp
def ipT : TIp := fun x y H Q => ∃ i j, x = .str i ∧ y = .str j ∧ i.length + j.length ≤ sizeLine ∧ Q (.str (i ++ j)) H
theorem ip_addT {X : Cx} : PIp X .Add ipT := fun pins s σ H x y v u Q I r1 r2 h => iop_add_str pins s σ H x y v u Q I r1 r2 h
theorem s_augT {i : Nat} {a b : W} (hx : σ[i]? = some (some (.str (S a)))) (h : Ev te σ H (.str (S b))) (hl : a.length + b.length ≤ 100000) (k : ∀ H1, Ex H H1 → D.nx (σ.set i (some (.str (S (a ++ b))))) H1) : tAug i te ipT D σ H :=
  ⟨_, hx, h H (Ex.refl H) _ fun H1 e => ⟨S a, S b, rfl, rfl, by rw [S_len, S_len]; exact sz hl, by rw [S_app]; exact k H1 e⟩⟩
theorem q_augT {i : Nat} {a b : W} (hx : σ[i]? = some (some (.str (S a)))) (h : Ev te σ H (.str (S b))) (hl : a.length + b.length ≤ 100000) (k : ∀ H1, Ex H H1 → tz D (σ.set i (some (.str (S (a ++ b))))) H1) : tSeq (tAug i te ipT) tz D σ H := s_augT (D := { D with nx := tz D }) hx h hl k
/-- d[w] = True -/
theorem s_dput {a : Addr} {ws : List W} {w : W} (hv : Ev te σ H (.bl true)) (ha : Ev ta σ H (.ref a)) (hb : Ev tb σ H (.str (S w))) (hd : H a = some (.dK (dkT ws))) (hn : w ∉ ws) (hz : ws.length ≤ 100000) (k : ∀ H1, Ex H H1 → D.nx σ (upd H1 a (.dK (dkT (ws ++ [w]))))) : sDPut ta tb te D σ H :=
  hv H (Ex.refl H) _ fun H1 e1 => ha H1 e1 _ fun H2 e2 => hb H2 (e1.trans e2) _ fun H3 e3 => ⟨a, _, rfl, DPut.k (k := Sum.inr (S w)) (((e1.trans e2).trans e3) a _ hd) (by
    unfold dkT
    rw [List.length_map, sizeLine_eq]
    omega), by
    rw [dkT_put hn]
    exact k H3 ((e1.trans e2).trans e3)⟩
theorem q_dput {a : Addr} {ws : List W} {w : W} (hv : Ev te σ H (.bl true)) (ha : Ev ta σ H (.ref a)) (hb : Ev tb σ H (.str (S w))) (hd : H a = some (.dK (dkT ws))) (hn : w ∉ ws) (hz : ws.length ≤ 100000) (k : ∀ H1, Ex H H1 → tz D σ (upd H1 a (.dK (dkT (ws ++ [w]))))) : tSeq (sDPut ta tb te) tz D σ H :=
  s_dput (D := { D with nx := tz D }) hv ha hb hd hn hz k
/-- x, y, z = [..], {..}, v -/
theorem q_par3LDV {i j l : Nat} {tc : TE} {xs : List V} {kvs : List (Key × V)} {v : V} (h1 : EvL ta σ H xs) (h2 : EvD tb σ H kvs) (h3 : Ev tc σ H v)
    (k : ∀ p q H1, H p = none → H q = none → p ≠ q → Ex H H1 → H1 p = some (.lst xs) → H1 q = some (.dK kvs) → tz D (((σ.set i (some (.ref p))).set j (some (.ref q))).set l (some v)) H1) : tSeq (tPar3 i j l (tCons ta (tCons tb (tCons tc tNil)))) tz D σ H :=
  h1 H (Ex.refl H) _ fun p H1 hp e1 hx => h2 H1 e1 _ fun q H2 hq e2 hk => h3 H2 (e1.trans e2) _ fun H3 e3 =>
    ⟨.ref p, .ref q, v, rfl, k p q H3 hp (fresh_back e1 hq) (ne_of_none hx hq) ((e1.trans e2).trans e3) (e3 _ _ (e2 _ _ hx)) (e3 _ _ hk)⟩
/-- x, y = v, {..} -/
theorem q_parVD {i j : Nat} {v : V} {kvs : List (Key × V)} (h1 : Ev ta σ H v) (h2 : EvD tb σ H kvs) (k : ∀ p H1, H p = none → Ex H H1 → H1 p = some (.dK kvs) → tz D ((σ.set i (some v)).set j (some (.ref p))) H1) : tSeq (tPar i j (tCons ta (tCons tb tNil))) tz D σ H :=
  h1 H (Ex.refl H) _ fun H1 e1 => h2 H1 e1 _ fun p H2 hp e2 h => ⟨v, .ref p, rfl, k p H2 (fresh_back e1 hp) (e1.trans e2) h⟩
end

/-! ### few words are short -/
theorem nodup_lt : ∀ (n : Nat) (l : List Nat), l.Nodup → (∀ x ∈ l, x < n) → l.length ≤ n
  | 0, l, _, h => by
    cases l with
    | nil => exact Nat.le_refl _
    | cons a r => exact absurd (h a (List.mem_cons_self ..)) (Nat.not_lt_zero _)
  | n + 1, l, hn, h => by
    by_cases hm : n ∈ l
    · have h1 : (l.erase n).Nodup := hn.erase n
      have h2 := nodup_lt n (l.erase n) h1 fun x hx => by
        have h3 := h x (List.mem_of_mem_erase hx)
        have h4 : x ≠ n := by
          intro e
          rw [e] at hx
          exact (List.Nodup.not_mem_erase hn) hx
        omega
      rw [List.length_erase_of_mem hm] at h2
      omega
    · have := nodup_lt n l hn fun x hx => by
        have h3 := h x hx
        have h4 : x ≠ n := fun e => hm (e ▸ hx)
        omega
      omega
def code : W → Nat := fun w => w.foldl (fun a b => 2 * a + (if b then 1 else 0)) 1
theorem code_from : ∀ (w : W) (a : Nat), w.foldl (fun a b => 2 * a + (if b then 1 else 0)) a < (a + 1) * 2 ^ w.length ∧ a * 2 ^ w.length ≤ w.foldl (fun a b => 2 * a + (if b then 1 else 0)) a
  | [], a => by simp
  | b :: r, a => by
    obtain ⟨h1, h2⟩ := code_from r (2 * a + (if b then 1 else 0))
    have hp : 0 < 2 ^ r.length := Nat.two_pow_pos _
    have e : 2 ^ (b :: r).length = 2 * 2 ^ r.length := by rw [List.length_cons, Nat.pow_succ]; omega
    rw [List.foldl_cons, e]
    generalize 2 ^ r.length = p at *
    have hb : (if b then 1 else 0) ≤ 1 := by split <;> omega
    refine ⟨Nat.lt_of_lt_of_le h1 ?_, Nat.le_trans ?_ h2⟩
    · rw [← Nat.mul_assoc]
      exact Nat.mul_le_mul_right _ (by omega)
    · rw [← Nat.mul_assoc]
      exact Nat.mul_le_mul_right _ (by omega)
theorem code_lt (w : W) : code w < 2 ^ (w.length + 1) := by
  have h := (code_from w 1).1
  rw [Nat.pow_succ]
  unfold code
  omega
theorem code_ge (w : W) : 2 ^ w.length ≤ code w := by
  have h := (code_from w 1).2
  unfold code
  omega
theorem fold_inj : ∀ (u w : W) (a b : Nat), u.length = w.length → u.foldl (fun a b => 2 * a + (if b then 1 else 0)) a = w.foldl (fun a b => 2 * a + (if b then 1 else 0)) b → a = b ∧ u = w
  | [], [], a, b, _, h => ⟨h, rfl⟩
  | [], _ :: _, _, _, h, _ => by simp at h
  | _ :: _, [], _, _, h, _ => by simp at h
  | x :: u, y :: w, a, b, hl, h => by
    have hl' : u.length = w.length := by simpa using hl
    obtain ⟨h1, h2⟩ := fold_inj u w _ _ hl' h
    cases x <;> cases y <;> simp at h1 <;> first | (exfalso; omega) | exact ⟨by omega, by rw [h2]⟩
theorem code_inj {u w : W} (h : code u = code w) : u = w := by
  have hl : u.length = w.length := by
    have a1 := code_lt u
    have a2 := code_ge u
    have b1 := code_lt w
    have b2 := code_ge w
    rcases Nat.lt_trichotomy u.length w.length with q | q | q
    · have : 2 ^ (u.length + 1) ≤ 2 ^ w.length := Nat.pow_le_pow_right (by decide) q
      omega
    · exact q
    · have : 2 ^ (w.length + 1) ≤ 2 ^ u.length := Nat.pow_le_pow_right (by decide) q
      omega
  exact (fold_inj u w 1 1 hl h).2
theorem nodup_words {L : Nat} {ws : List W} (h : ws.Nodup) (hl : ∀ w ∈ ws, w.length ≤ L) : ws.length < 2 ^ (L + 1) := by
  have h1 : ((0 : Nat) :: ws.map code).Nodup := by
    rw [List.nodup_cons]
    refine ⟨fun hm => ?_, ?_⟩
    · obtain ⟨w, _, e⟩ := List.mem_map.mp hm
      have := code_ge w
      have hp := Nat.two_pow_pos w.length
      omega
    · exact List.Pairwise.map code (fun a b hab e => hab (code_inj e)) h
  have h2 := nodup_lt (2 ^ (L + 1)) _ h1 fun x hx => by
    rcases List.mem_cons.mp hx with e | hx
    · rw [e]
      exact Nat.two_pow_pos _
    · obtain ⟨w, hw, rfl⟩ := List.mem_map.mp hx
      have a1 := code_lt w
      have a2 : 2 ^ (w.length + 1) ≤ 2 ^ (L + 1) := Nat.pow_le_pow_right (by decide) (by have := hl w hw; omega)
      omega
  rw [List.length_cons, List.length_map] at h2
  omega
end Fl

/-! sorted of a list or a tuple of pairs of texts -/
namespace Fl
open PySem PySem.W PyProof.Rows L2 Evl TL
def encP (b : V × Str × Str) : PyData := .tuple [.str b.2.1, .str b.2.2]
def leP : (V × Str × Str) → (V × Str × Str) → Bool := dataLe false encP
def rSortSt (K : Frag) : List V → Hp → VK → Prop := fun xs H Q => ∃ (p : Addr) (bs : List (V × Str × Str)), xs = [.ref p] ∧ (SqL K H p (bs.map (·.1)) ∨ SqT K H p (bs.map (·.1))) ∧ (∀ b ∈ bs, ∃ q, b.1 = .ref q ∧ SqT K H q [.str b.2.1, .str b.2.2]) ∧ bs.length ≤ 1000 ∧ ∀ l, H l = none → Q (.ref l) (upd H l (.lst ((bs.mergeSort leP).map (·.1))))
theorem each_map : ∀ {bs : List (V × Str × Str)} {vs : List Value}, Vals (bs.map (·.1)) vs → EachIs (fun v b => RelV b.1 v) vs bs
  | [], [], _ => .nil
  | [], _ :: _, h => by cases h
  | _ :: _, [], h => by cases h
  | b :: bs, v :: vs, h => by
    cases h with
    | cons h1 h2 => exact .cons h1 (each_map h2)
theorem map_each : ∀ {bs : List (V × Str × Str)} {vs : List Value}, EachIs (fun v b => RelV b.1 v) vs bs → Vals (bs.map (·.1)) vs
  | [], [], _ => .nil
  | [], _ :: _, h => by cases h
  | _ :: _, [], h => by cases h
  | b :: bs, v :: vs, h => by
    cases h with
    | cons h1 h2 => exact .cons h1 (map_each h2)
theorem each_all {α β : Type} {R R' : α → β → Prop} : ∀ {as : List α} {bs : List β}, EachIs R as bs → (∀ a b, b ∈ bs → R a b → R' a b) → EachIs R' as bs
  | [], [], _, _ => .nil
  | [], _ :: _, h, _ => by cases h
  | _ :: _, [], h, _ => by cases h
  | a :: as, b :: bs, h, k => by
    cases h with
    | cons h1 h2 => exact .cons (k _ _ (List.mem_cons_self ..) h1) (each_all h2 fun a b hb => k a b (List.mem_cons_of_mem _ hb))
theorem callSortSt {X : Cx} (hu : X.A.units + 20 < cLine) : CallR X (.builtin "sorted") (rSortSt X.K) := by
  intro pins s σ H xs us Q I rv h
  obtain ⟨p, bs, rfl, hp, hb, hl, k⟩ := h
  obtain ⟨its, rits, T, o, n, hT, ho, hc, hd, hsz⟩ : ∃ its : List Value, Vals (bs.map (·.1)) its ∧ ∃ (T : String) (o : Obj) (n : Nat), (T = "list" ∨ T = "tuple") ∧ s.heap.get? p = some o ∧ o.cls = .type T ∧ o.data = .seq its.toArray n ∧ its.length ≤ sizeLine := by
    rcases hp with hp | hp
    · obtain ⟨its, rv, pl, hz⟩ := I.list hp
      obtain ⟨o, n, h2, h3, _, h4⟩ := pl
      exact ⟨its, rv, "list", o, n, .inl rfl, h2, h3, h4, by rw [← rv.length]; exact hz⟩
    · obtain ⟨its, rv, ⟨o, h1, h2, n, h3⟩, hz⟩ := I.tuple hp
      exact ⟨its, rv, "tuple", o, n, .inr rfl, h1, h2, h3, by rw [← rv.length]; exact hz⟩
  cases rv with
  | cons r0 rn =>
    cases rn
    rename_i u0
    obtain rfl : u0 = Value.ref p := r0
    refine call_function_entry_kw kind_sorted plain_sorted entry_sorted (args_sorted1 _) ?_
    refine wpAny_bind (wpAny_pure ?_)
    refine wpAny_bind (wpAny_collect_seq p hT ho hc hd (fun h1 k1 => ?_) (by rw [List.size_toArray]; exact hsz))
    refine wpAny_bind (wpAny_newList ?_ hsz)
    refine wpAny_bind (wpAny_holding ?_)
    show wpAny _ _ (call (.builtin "list.sort") [.ref h1.objs.size]) _ _ _
    have hnew : (h1.push (seqObj "list" its.toArray 0)).get? h1.objs.size = some (seqObj "list" its.toArray 0) := by heap_get
    have k2 : ∀ b o', s.heap.get? b = some o' → (h1.push (seqObj "list" its.toArray 0)).get? b = some o' := fun b o' e => Heap.get?_push_of_some _ (k1 b o' e)
    have hE := each_map rits
    have hlen : its.length = bs.length := by
      have := Paired.length rits
      rw [List.length_map] at this
      exact this.symm
    refine list_sort_data (R := fun v b => RelV b.1 v) (enc := encP) hnew hE (each_all hE fun v b hbm r => ?_) ?_ ?_ ?_ ?_ fun out ho' hR => ?_
    · obtain ⟨q, e, hq⟩ := hb b hbm
      rw [e] at r
      obtain rfl : v = Value.ref q := r
      obtain ⟨its2, rv2, ⟨o2, g1, g2, n2, g3⟩, _⟩ := I.tuple hq
      refine ⟨[], ?_, List.not_mem_nil⟩
      cases rv2 with
      | cons ra rr =>
        cases rr with
        | cons rb rr =>
          cases rr
          obtain ⟨t1, rfl⟩ := ra
          obtain ⟨t2, rfl⟩ := rb
          exact Reads.tuple (k2 _ _ g1) g2 g3 (.cons (as := []) (bs := []) (.str ..) (.cons (as := []) (bs := []) (.str ..) .nil))
    · intro d hd d' hd'
      obtain ⟨b, _, rfl⟩ := List.mem_map.mp hd
      obtain ⟨b', _, rfl⟩ := List.mem_map.mp hd'
      rfl
    · refine .inl fun d hd => ?_
      obtain ⟨b, _, rfl⟩ := List.mem_map.mp hd
      exact ⟨_, _, rfl⟩
    · rw [sizeLine_eq]; omega
    · intro b _
      show X.A.units + 1 + 1 + 1 < cLine
      omega
    · refine wpAny_pure ⟨_, rfl, ?_⟩
      have I1 := I.kept (t' := s.toks) k1
      refine ⟨.ref h1.objs.size, _, I1.laid (a := h1.objs.size) (o := .lst ((bs.mergeSort leP).map (·.1))) (fun b u e => ?_) (Nat.le_refl _) ?_, rfl, k _ ?_⟩
      · have hbl : b < h1.objs.size := Heap.lt_size e
        rw [sortedHeap_old (Nat.ne_of_lt hbl) (by rw [Heap.size_push]; exact Nat.lt_succ_of_lt hbl)]
        exact Heap.get?_push_of_some _ e
      · unfold ObjOk
        obtain ⟨ep, he⟩ := sortedHeap_at (out := out.toArray) hnew
        exact ⟨by rw [List.length_map, List.length_mergeSort]; exact Nat.le_trans hl (by decide), out, ep, map_each hR, he⟩
      · exact I1.hok.fresh (Nat.le_refl _)
end Fl


/-! An exception class over a class over ValueError whose __init__ says super().__init__(text, x); self.f = x -/
namespace Fl
open PySem PySem.W PyProof.Rows
def fileIn (prog : Program) (K : Frag) (cd : Value) : Bool := match cd with
  | .ref c => match K.lookup c with
    | some o => match o.data with
      | .fields vs => match vs.toList with
        | _ :: _ :: .str f _ :: _ => prog.main.file == f
        | _ => false
      | _ => false
    | _ => false
  | _ => false
theorem file_of {prog : Program} {K : Frag} {cd : Value} {h : Heap} (X : K.In h) (e : fileIn prog K cd = true) : ∃ c oc vs file tf, cd = .ref c ∧ h.get? c = some oc ∧ oc.data = .fields vs ∧ vs[2]? = some (.str file tf) ∧ (prog.main.file == file) = true := by
  unfold fileIn at e
  split at e
  · rename_i c
    split at e
    · rename_i o ho
      split at e
      · rename_i vs hv
        split at e
        · rename_i a b f t r hl
          refine ⟨c, o, vs, f, t, rfl, X _ _ ho, hv, ?_, e⟩
          rw [← Array.getElem?_toList, hl]
          rfl
        · cases e
      · cases e
    · cases e
  · cases e
theorem code_of {K : Frag} {cd : Value} {q : Str} {h : Heap} (X : K.In h) (e : codeIn K cd q = true) : h.CodeRec cd q := by
  unfold codeIn at e
  split at e
  · rename_i c
    split at e
    · rename_i vs _ ho
      split at e
      · rename_i n t r hl
        refine ⟨c, _, vs, t, rfl, X _ _ ho, rfl, ?_⟩
        rw [← Array.getElem?_toList, hl]
        simp at e
        rw [← e]
        rfl
      · cases e
    · cases e
  · cases e
theorem inv_mod {X : L2.Cx} {pins : List (Addr × Obj)} {σ : List (Option L2.V)} {H : L2.Hp} {s : Shared} (I : L2.Inv X pins σ H s) : L2.Mod X.K X.mg s.heap := by
  have hns : ∀ (a : Addr) (m : Str → Option Value), X.base.Ns a m → s.heap.Ns a m := by
    rintro a m ⟨o, es, ep, ho, hd, hk, hf⟩
    obtain ⟨h0, hH⟩ := I.ok.bs a o ho
    by_cases hfs : a ∈ X.fs
    · obtain ⟨sl, q⟩ := I.base.slot a o h0 hH hfs (I.ok.noex a o ho)
      exact ⟨_, es, ep, q, hd, hk, hf⟩
    · exact ⟨o, es, ep, I.base.keep a o h0 hH hfs (I.ok.noex a o ho), hd, hk, hf⟩
  obtain ⟨mb, h1, h2⟩ := I.ok.mod.blt
  exact ⟨I.kIn, hns _ _ I.ok.mod.glob, ⟨mb, hns _ _ h1, h2⟩, I.nolimit⟩
def veMro : List Value := [.type "ValueError", .type "Exception", .type "BaseException", .type "object"]
end Fl
namespace Fl
open PySem PySem.W PyProof.Rows
namespace Exc_word
def iA (p1 p2 : Pos) : Arguments := { posonlyargs := [], args := [{ arg := "self", annotation := none, pos := p1 }, { arg := "word", annotation := none, pos := p2 }], vararg := none, kwonlyargs := [], kw_defaults := [], kwarg := none, defaults := [] }
def iE (msg : Str) (n : Nat) (a1 a2 a3 a4 a5 a6 : Pos) : Expr := .Call (.Attribute (.Call (.Name "super" a1) [] [] a2) "__init__" a3) [.Constant (.str msg) n a4, .Name "word" a5] [] a6
def iB (msg : Str) (n : Nat) (a1 a2 a3 a4 a5 a6 a7 q1 q2 q3 q4 : Pos) : List Stmt := [.Expr (iE msg n a1 a2 a3 a4 a5 a6) a7, .Assign [.Attribute (.Name "self" q1) "word" q2] (.Name "word" q3) q4]
def iS : Scope := { kind := .function, names := [(PySem.Str.ofString "self", .local), (PySem.Str.ofString "word", .local), (PySem.Str.ofString "__class__", .free), (PySem.Str.ofString "super", .globalImplicit)], isGenerator := false, isCoroutine := false, more := [] }
/-- what the written part says of the class, at C, and of its __init__, at fI -/
structure Txt (prog : Program) (K : Frag) (mg : Str → Option Value) (nm : Str) (C fI : Addr) : Prop where
  gC : mg nm = some (.ref C)
  cls : ∃ nm' q N bs bm sn sub ab col dd k0 k1 k2 k3 k5, K.lookup C = some (excClassObj nm' q C N bs bm true sn sub ab col dd k0 k1 k2 k3 k5 "ValueError.__new__") ∧ HandSPX.refsVE bm = true
  sa : findIn K (.ref C) "__setattr__" = some (some (.builtin "object.__setattr__"))
  ga : findIn K (.ref C) "__getattribute__" = some (some (.builtin "BaseException.__getattribute__"))
  gg : findIn K (.ref C) "__getattr__" = some none
  noN : findIn K (.ref C) "word" = some none
  iC : findIn K (.ref C) "__init__" = some (some (.ref fI))
  tC : typeIn K (.ref fI) = some (.type "function")
  kC : keepIn K (.ref C) = true
  exC : subIn K (.ref C) (.type "BaseException") = some true
  tyC : typeIn K (.ref C) = some (.type "type")
  hdC : hasDictIn K C = true
  te : exmOne K (.ref C) (.ref C) = some true
  along : ks_superIn K C C "__init__" = some (some (.builtin "ValueError.__init__"))
  ve : subIn K (.ref C) (.type "ValueError") = some true
  self : mroIn K C (.ref C) = some true
  stat : nsIn K cStatics "thirdparty.any" = some none
  exi : excInitIn K C veMro "ValueError.__new__" = true
  noS : mg "super" = none
  noP : (List.lookup ("super" : Str) prog.main.scope.names).isSome = false
  fn : ∃ (oc : Value) (od : Option Addr) (doc pm : Value) (an : Option Addr) (cdv ct : Value) (osl : Array (Option Value)) (q msg : Str) (n : Nat) (p1 p2 a1 a2 a3 a4 a5 a6 a7 q1 q2 q3 q4 : Pos) (cc : Addr) (oC : Value) (dC : Option Addr) (sC : Array (Option Value)),
    K.lookup fI = some ⟨oc, od, .func (ksFn "__init__" q (iA p1 p2) (iB msg n a1 a2 a3 a4 a5 a6 a7 q1 q2 q3 q4) iS .none .none doc pm an cdv ct cc), osl⟩ ∧ (a3.endLine == a6.line) = true ∧ codeIn K cdv q = true ∧ fileIn prog K cdv = true ∧ K.lookup cc = some ⟨oC, dC, .cell (some (.ref C)), sC⟩
section
variable {prog : Program} {w : World} {A : Around} {E : Value → Shared → Prop} {R : Result → Shared → Prop} {s : Shared} {K : Frag} {mg : Str → Option Value} {nm : Str} {C fI : Addr} {hp : Heap}
theorem ldN {M : Model} {s : Shared} {env : Env} {m : Str → Option Value} {x : Str} {pos : Pos} {v : Value} {Q : Value → Shared → Prop} {A : Around} {E : Value → Shared → Prop} (hn : s.heap.Ns env.locals m) (hv : m x = some v) (h : Q v s)
    (hk : env.scope.kind = .function := by rfl) (hl : env.kindOf x = some .local := by rfl) (hd : (x == ("__debug__" : Str)) = false := by decide) :
    wpAny M A (eval (.Name x pos) env) Q E s := wpAny_Name (wpAny_loadName_local hk hl hn hv h) hd
theorem call_eq {msg : Str} {n : Nat} {a1 a2 a3 a4 a5 a6 : Pos} {env : Env} (h : (a3.endLine == a6.line) = true) : eval (iE msg n a1 a2 a3 a4 a5 a6) env = (do
    let ov ← attributeBase (.Call (.Name "super" a1) [] [] a2) "__init__" env (eval (.Call (.Name "super" a1) [] [] a2) env)
    standAt a3.atName
    match ← holding [ov] (getMethod ov "__init__" (do pure ((← importBound (.Call (.Name "super" a1) [] [] a2) env).getD true))) with
    | (f, first) => callWith a6 f first (backTo a6 (starEach [.Constant (.str msg) n a4, .Name "word" a5] env)) []) := by
  have e : eval (iE msg n a1 a2 a3 a4 a5 a6) env = (do
    let ov ← attributeBase (.Call (.Name "super" a1) [] [] a2) "__init__" env (eval (.Call (.Name "super" a1) [] [] a2) env)
    standAt a3.atName
    methodCall (.Call (.Name "super" a1) [] [] a2) "__init__" a3 a6 env ov 2 (backTo a6 (starEach [.Constant (.str msg) n a4, .Name "word" a5] env)) []) := by rfl
  rw [e]
  congr 1
  funext ov
  congr 1
  funext _
  unfold methodCall methodCallPos
  have z : (!methodCallForm 2 (backTo a6 (starEach [.Constant (.str msg) n a4, .Name "word" a5] env)) [] || a3.endLine == a6.line) = true := by rw [h, Bool.or_true]
  rw [z]
  rfl
theorem init (T : Txt prog K mg nm C fI) (B : L2.Mod K mg hp) {x t0 : Addr} {v : Value} (k0 : ∀ b o, hp.get? b = some o → s.heap.get? b = some o) (hlim : s.heap.NoLimit) (hx : s.heap.get? x = some (excObj C t0 none .none)) (hnx : hp.get? x = none) (hL : hp.objs.size ≤ s.heap.objs.size) (hroom : A.depth < recursionLimit)
    (hq : ∀ h' tk dx t1, (∀ b o, hp.get? b = some o → h'.get? b = some o) → h'.get? x = some { cls := .ref C, dict := some dx, data := .fields #[.ref t1, .none, .none, .none, .bool false, .none] } → hp.objs.size ≤ dx → dx ≠ x → h'.Ns1 dx (fun y => if y = "word" then some v else none) → R (.ok (.ret .none)) { s with heap := h', toks := tk }) :
    codeAny (model prog w) A (.call (.ref fI) ⟨[.ref x, v], []⟩) R s := by
  obtain ⟨oc, od, doc, pm, an, cdv, ct, osl, q, msg, n, p1, p2, a1, a2, a3, a4, a5, a6, a7, q1, q2, q3, q4, cc, oC, dC, sC, ho, hline, hcd, hfile, hcell⟩ := T.fn
  obtain ⟨nm', q', N, bs, bm, sn, sub, ab, col, dd, k0', k1, k2, k3, k5, hC, hbm⟩ := T.cls
  have hcl : clsIn K C = some { name := nm', bases := bs, mro := .ref C :: bm, ns := N, qualname := q', hasDict := true, slotNames := sn, subclasses := sub, abstract := ab, collection := col, hasDel := false } := by unfold clsIn; rw [hC] <;> rfl
  have X0 : K.In hp := B.kin
  have X : K.In s.heap := X0.keeps k0
  refine ks_codeAny_call_defAt (binds := [("self", .ref x), ("word", v)]) hroom (X _ _ ho) rfl hlim (code_of X hcd) rfl (BindsTo.of_eq (by first | rfl | with_unfolding_all rfl)) ?_ ?_ (fun h₁ hn k => ?_) rfl rfl rfl
  · show ∀ x ∈ iS.names, x.2 ≠ NameKind.cell
    decide
  · intro y hy
    rcases List.mem_cons.mp hy with e | hy
    · rw [e]; rfl
    · rw [List.mem_singleton.mp hy]; rfl
  have X₁ : K.In h₁ := X.keeps k
  have hx₁ := k _ _ hx
  have hsx : x < s.heap.objs.size := Heap.lt_size hx
  have hne : s.heap.objs.size ≠ x := Nat.ne_of_gt hsx
  have F1 : Fr hp s.heap.objs.size h₁ (fun y => List.lookup y [(("self" : Str), Value.ref x), ("word", v)].reverse) := ⟨hn, fun b o e => k b o (k0 b o e), hL⟩
  obtain ⟨c, oc', vs, file, tf, hce, hco, hcd', hf2, hfile'⟩ := file_of X₁ hfile
  obtain ⟨mb, hmb, hbi⟩ := B.blt
  have k1' : ∀ b o, hp.get? b = some o → h₁.get? b = some o := fun b o e => k b o (k0 b o e)
  have hCg : h₁.get? C = some _ := X₁ _ _ hC
  show PySem.wpAt _ _ _ (execs (iB msg n a1 a2 a3 a4 a5 a6 a7 q1 q2 q3 q4) _) _ _ _
  refine ks_wpAt_execs_cons (ks_wpAt_Expr_any (ks_wpAt_MethodCall ?_ (call_eq hline)))
  refine ks_wpAt_super_base (by rfl) (by rfl) (by decide) rfl (X₁ _ _ ho) rfl rfl hce hco hcd' hf2 hfile' T.noP ?_
  refine ks_loadName_global (by rfl) (by rfl) (Calls.loadGlobal_builtin (mg := mg) (mb := mb) (B.glob.keeps k1') T.noS (hmb.keeps k1') ((hbi _ (by decide)).trans (by decide +kernel : bootBuiltins "super" = some (.type "super"))) ⟨rfl, ?_⟩)
  refine wpAny_loadName_free (c := cc) (v := .ref C) (by rfl) (by rfl) (by rfl) ⟨_, X₁ _ _ hcell, rfl⟩ ?_
  refine wpAny_loadName_local (v := .ref x) (by rfl) (by rfl) hn (by rfl) ?_
  refine ks_wpAny_isType_cls hCg rfl ⟨rfl, ?_⟩
  refine ks_wpAny_call_super hCg rfl hx₁ rfl (by intro c; intro h; cases h) (looks_mroIn X₁ T.self) fun h₂ hso k2' => ?_
  -- the method, bound
  have hLs : s.heap.objs.size < h₁.objs.size := hn.lt
  have none_big : ∀ b, h₁.objs.size ≤ b → hp.get? b = none := fun b hb => by
    cases e : hp.get? b with
    | none => rfl
    | some o => exact absurd (Heap.lt_size (k _ _ (k0 _ _ e))) (Nat.not_lt.mpr hb)
  have F2 : Fr hp s.heap.objs.size h₂ (fun y => List.lookup y [(("self" : Str), Value.ref x), ("word", v)].reverse) := ⟨F1.ns.keeps k2', fun b o e => k2' b o (F1.keep b o e), hL⟩
  have N2 : News hp s.heap.objs.size h₂ [(h₁.objs.size, ks_superObj C x C), (x, excObj C t0 none .none)] := by
    intro p hpm
    rcases List.mem_cons.mp hpm with e | hpm
    · rw [e]
      exact ⟨hso, Nat.ne_of_gt hLs, none_big _ (Nat.le_refl _)⟩
    · rw [List.mem_singleton.mp hpm]
      exact ⟨k2' _ _ hx₁, Ne.symm hne, hnx⟩
  refine kxs_method (odx := none) kxs_ValueError F2 X0 N2 List.mem_cons_self ⟨k2' _ _ hx₁, rfl, rfl, trivial⟩ T.stat T.along T.ve (by decide) fun u h₃ F3 N3 lt3 => ?_
  refine kxs_callWith1 N3 List.mem_cons_self ?_
  refine Calls.spliced_cons (wpAny_Constant_str (k := n) (pos := a4) ?_)
  refine Calls.spliced_cons (ldN (pos := a5) F3.ns (by rfl) ?_)
  refine Calls.spliced_nil ⟨(N3 _ List.mem_cons_self).1, ?_⟩
  have hxu : ∀ p ∈ ([] : List (Addr × Obj)), p.1 ≠ x := fun p hp => absurd hp List.not_mem_nil
  refine kxs_call F3 X0 N3 F.excBase_ValueError T.exi List.mem_cons_self (.tail ?_ (.tail ?_ (.head hxu))) ?_ fun t' h₄ F4 N4 lt4 => ?_
  · exact Nat.ne_of_gt (lt3 _ (List.mem_cons_of_mem _ List.mem_cons_self))
  · exact Nat.ne_of_gt (Nat.lt_trans hsx hLs)
  · rw [sizeLine_eq]
    exact (by decide : 2 ≤ 16777216)
  -- self.f = f
  have X₄ : K.In h₄ := X0.keeps F4.keep
  have hx₄ : h₄.get? x = some (excObj C t' none .none) := (N4 _ (List.mem_cons_of_mem _ (List.mem_cons_of_mem _ (List.mem_cons_of_mem _ List.mem_cons_self)))).1
  refine ks_wpAt_execs_cons (PySem.wpAt_of_wpAny (plainObj_wpAny_Assign_Attribute ?_))
  refine ldN F4.ns (by rfl) (ldN F4.ns (by rfl) ?_)
  refine set_plain X₄ (ox := excObj C t' none .none) (od := none) ⟨hx₄, rfl, rfl, trivial⟩ T.sa ?_
  refine HandSPX.exc_osa X₄ hx₄ hcl (show HandSPX.refsVE (.ref C :: bm) = true from hbm) rfl T.noN (fun h₅ tk₅ dx k₅ dn dne hx₅ hn₅ => ?_)
  have z : s.heap.objs.size < h₄.objs.size := F4.ns.lt
  refine PySem.wpAt_of_wpAny (wpAny_execs_nil ?_)
  exact hq h₅ tk₅ dx t' (fun b o e => k₅ b o (fun q => by rw [q, hnx] at e; cases e) (F4.keep b o e)) hx₅ (Nat.le_trans hL (Nat.le_of_lt (Nat.lt_of_lt_of_le z dn))) dne hn₅
/-- a made one -/
structure Made (h h' : Heap) (e C d : Addr) (v : Value) : Prop where
  keep : ∀ b o, h.get? b = some o → h'.get? b = some o
  new : h.objs.size ≤ e
  obj : ∃ oe vs, h'.get? e = some oe ∧ oe.cls = .ref C ∧ oe.dict = some d ∧ oe.data = .fields vs ∧ vs[1]? = some .none
  dbig : h.objs.size ≤ d
  dne : d ≠ e
  ns : h'.Ns1 d (fun y => if y = "word" then some v else none)
theorem made (T : Txt prog K mg nm C fI) {v : Value} (B : L2.Mod K mg s.heap) (hroom : A.depth + 1 < recursionLimit)
    (hq : ∀ h' tk e d, Made s.heap h' e C d v → R (.ok (.ret (.ref e))) { s with heap := h', toks := tk }) :
    codeAny (model prog w) A (.call (.ref C) ⟨[v], []⟩) R s := by
  obtain ⟨nm', q, N, bs, bm, sn, sub, ab, col, dd, k0, k1, k2, k3, k5, hC, hbm⟩ := T.cls
  have X := B.kin
  have hlim := B.nolimit
  obtain ⟨hp, g, dr, tk, os⟩ := s
  have k : ∀ b o, hp.get? b = some o → ((hp.push (kdv_tup [v])).push (HandSPX.excO C hp.objs.size)).get? b = some o := fun b o e => Heap.get?_push_of_some _ (Heap.get?_push_of_some _ e)
  have hget : ((hp.push (kdv_tup [v])).push (HandSPX.excO C hp.objs.size)).get? (hp.objs.size + 1) = some (HandSPX.excO C hp.objs.size) := by heap_get
  have hnx : hp.get? (hp.objs.size + 1) = none := by
    cases e : hp.get? (hp.objs.size + 1) with
    | none => rfl
    | some o => exact absurd (Nat.lt_of_succ_lt (Heap.lt_size e)) (Nat.lt_irrefl _)
  refine HandSPX.call_own F.excBase_ValueError (fun X => HandSPX.refsVE_contains X bm hbm) (X _ _ hC) (looks_findIn X T.iC) (fun self => bind_fn X self T.tC) (by rw [sizeLine_eq]; exact (by decide : 1 ≤ 16777216)) ?_
  refine init (s := ⟨(hp.push (kdv_tup [v])).push (HandSPX.excO C hp.objs.size), g, dr, tk, os⟩) (hp := hp) T B k (hlim.keeps k) hget hnx ?_ ?_ fun h' tk' dx t1 k' hx dn dne hns => ?_
  · show hp.objs.size ≤ ((hp.push (kdv_tup [v])).push (HandSPX.excO C hp.objs.size)).objs.size
    rw [Heap.size_push, Heap.size_push]
    omega
  · show A.depth + 1 < recursionLimit
    exact hroom
  · exact ⟨rfl, hq h' tk' (hp.objs.size + 1) dx ⟨k', Nat.le_succ _, ⟨_, _, hx, rfl, rfl, rfl, rfl⟩, dn, dne, hns⟩⟩
end
end Exc_word
end Fl
namespace L2
open PySem PySem.Spec PyProof.Rows
namespace Exc_word
theorem relO {v : V} {v' : Value} (r : RelV v v') (f : Str) : RelO (List.lookup f [(("word" : Str), v)]) (if f = "word" then some v' else none) := by
  by_cases hw : f = "word"
  · subst hw
    rw [if_pos rfl]
    have q : List.lookup ("word" : Str) [(("word" : Str), v)] = some v := by simp [List.lookup]
    rw [q]
    exact r
  · rw [if_neg hw]
    have qw : (f == ("word" : Str)) = false := by simpa using hw
    have q2 : List.lookup f [(("word" : Str), v)] = none := by simp [List.lookup, qw]
    rw [q2]
    trivial
section
variable {X : Cx} {nm : Str} {C fI : Addr}
/-- C(e) -/
def tMk (C : Addr) (ta : TA) : St → Hp → XK → Prop := fun σ H Q => ta σ H fun vs H1 => ∃ v, vs = [v] ∧ ∀ d, H1 d = none → Q (.ref C) (some d) (upd H1 d (.xd [(("word" : Str), v)]))
theorem pmk {a : Expr} {ta : TA} {p pos : Pos} {k : Nat} (hg : Gl X nm) (T : Fl.Exc_word.Txt X.prog X.K X.mg nm C fI) (hr : Room k X.A) (ha : PA X [a] ta)
    (hd : (nm == ("__debug__" : Str)) = false := by decide)
    (he : starEach (a :: []) X.env = (false, eval a X.env) :: starEach [] X.env := by rfl) (hpl : (backTo pos (starEach [] X.env)).any (·.1) = false := by rfl) :
    PMk X (.Call (.Name nm p) [a] [] pos) (tMk C ta) := by
  intro pins s σ H Q I h
  refine wpAny_Call_Name_kw (ld_glob I hg T.gC ?_ hd)
  refine PySem.W.callWith_K (h₀ := X.base) I.ok.mod.kin T.kC (thn (ha.run pos pins s σ H _ I h) fun us s1 hh => ?_) he hpl
  obtain ⟨vs, H1, I1, r1, v, ev, q1⟩ := hh
  subst ev
  refine ⟨I1.kIn, ?_⟩
  cases r1 with
  | cons rv rn =>
    rename_i v' us'
    cases rn
    show wpAny _ _ (call (.ref C) [v']) _ _ _
    have B := Fl.inv_mod I1
    obtain ⟨hp, g, dr, tk, os⟩ := s1
    refine wpAny_call (Fl.Exc_word.made T B (by have := hr.dp; omega) fun h' tk' e d M => ?_)
    show MkP X pins σ Q (.ref e) ⟨h', g, dr, tk', os⟩
    obtain ⟨oe, fv, hoe, hc, hd, hdat, h1⟩ := M.obj
    have hns := M.ns
    obtain ⟨G', g1, g2⟩ := restrict h' fun b => decide (b ≠ e)
    have gk : ∀ b, b ≠ e → G'.get? b = h'.get? b := fun b hb => g1 b (decide_eq_true hb)
    have ge : G'.get? e = none := g2 e (by simp)
    have old : ∀ b o, hp.get? b = some o → G'.get? b = some o := fun b o q => (gk b (Nat.ne_of_lt (Nat.lt_of_lt_of_le (Heap.lt_size q) M.new))).trans (M.keep b o q)
    have ob : ObjOk X.prog X.w (upd H1 d (.xd [(("word" : Str), v)])) G' d (.xd [(("word" : Str), v)]) :=
      ⟨_, hns.at (fun o q => (gk d M.dne).trans q), fun f => relO rv f⟩
    have J : Inv X pins σ (upd H1 d (.xd [(("word" : Str), v)])) ⟨G', g, dr, tk', os⟩ := I1.laid (t' := tk') old M.dbig ob
    refine ⟨e, oe, fv, ⟨G', g, dr, tk', os⟩, _, .ref C, some d, rfl, J, fun b o q => ?_, ge, hoe, ⟨hc, hd⟩, hdat, h1, ?_, rfl, I1.bare, raises_own T.exC T.tyC, q1 d (I1.hok.fresh M.dbig)⟩
    · by_cases hb : b = e
      · have q' : G'.get? b = some o := q
        rw [hb, ge] at q'; cases q'
      · exact (gk b hb).symm.trans q
    · rw [upd_ne (Ne.symm M.dne)]
      exact I1.hok.fresh M.new
/-- raise C(e) -/
def tRaise (C : Addr) (W : WX) (ta : TA) : TS := fun _ σ H => tMk C ta σ H fun cls d H' => W cls d σ H'
theorem ps_raiseE {a : Expr} {ta : TA} {W : WX} {p pos pos2 : Pos} {k : Nat} (hc : X.calm = true) (hg : Gl X nm) (T : Fl.Exc_word.Txt X.prog X.K X.mg nm C fI) (hr : Room k X.A) (tk : Takes X W) (ha : PA X [a] ta)
    (hd : (nm == ("__debug__" : Str)) = false := by decide)
    (he : starEach (a :: []) X.env = (false, eval a X.env) :: starEach [] X.env := by rfl) (hpl : (backTo pos (starEach [] X.env)).any (·.1) = false := by rfl) :
    PS X (.Raise (some (.Call (.Name nm p) [a] [] pos)) none pos2) (tRaise C W ta) := ps_raise hc tk (pmk hg T hr ha hd he hpl)
/-- e.f, e the exception that the suite holds (at a; its class cls, its dict d) -/
def tBy (C : Addr) (a : Addr) (cls : Value) (d : Option Addr) (te : TE) : TE := fun σ H Q => te σ H fun x H1 => x = .ref a ∧ cls = .ref C ∧ ∃ (dd : Addr) (v : V), d = some dd ∧ H1 dd = some (.xd [(("word" : Str), v)]) ∧ Q v H1
theorem pe_by {a : Addr} {oe : Obj} {cls : Value} {d : Option Addr} {pn : List (Addr × Obj)} {e : Expr} {te : TE} {pos : Pos} (T : Fl.Exc_word.Txt X.prog X.K X.mg nm C fI) (hz : Zc cls d oe) (hf : ∃ vs, oe.data = .fields vs) (he : PE (X.suite a ((a, oe) :: pn)) e te)
    (hb : attributeBase e "word" X.env (eval e X.env) = eval e X.env := by rfl) :
    PE (X.suite a ((a, oe) :: pn)) (.Attribute e "word" pos) (tBy C a cls d te) := by
  refine ⟨fun pins s σ H Q I h => ?_⟩
  refine attr_of hb (thn (he.run pins s σ H _ I h) fun u s1 hh => ?_)
  obtain ⟨x, H1, I1, rx, ex, ec, dd, v, ed, ea, q⟩ := hh
  subst ex
  obtain rfl : u = Value.ref a := rx
  subst ec
  subst ed
  obtain ⟨ha, _⟩ := I1.pin (a, oe) (List.mem_append_left _ List.mem_cons_self)
  obtain ⟨vs, hd⟩ := hf
  have hx : ObjOk X.prog X.w H1 s1.heap dd (.xd [(("word" : Str), v)]) := I1.hok dd _ ea
  obtain ⟨mA, hns, hr⟩ := hx
  obtain ⟨od, ho, hl⟩ := lookIn_ns hns
  have l : List.lookup ("word" : Str) [(("word" : Str), v)] = some v := by simp [List.lookup]
  obtain ⟨u, hu, ru⟩ := RelO.some_of (v := v) (o := mA "word") (by rw [← l]; exact hr "word")
  have J : PySem.W.InstAt s1.heap a oe C (some od) := ⟨ha, hz.1, by unfold PySem.W.notCls; rw [hd] <;> rfl, by rw [hz.2]; exact ho⟩
  exact HandSPX.exc_get I1.kIn J T.ga T.gg T.exC (PySem.W.findObj_own T.hdC T.noN rfl (by rw [hl, hu])) (handed_of ru) ⟨v, H1, I1.tok _, ru, q⟩
end
end Exc_word
end L2
namespace Fl
open PySem PySem.W PyProof.Rows
namespace Exc_at
def iA (p1 p2 : Pos) : Arguments := { posonlyargs := [], args := [{ arg := "self", annotation := none, pos := p1 }, { arg := "at", annotation := none, pos := p2 }], vararg := none, kwonlyargs := [], kw_defaults := [], kwarg := none, defaults := [] }
def iE (msg : Str) (n : Nat) (a1 a2 a3 a4 a5 a6 : Pos) : Expr := .Call (.Attribute (.Call (.Name "super" a1) [] [] a2) "__init__" a3) [.Constant (.str msg) n a4, .Name "at" a5] [] a6
def iB (msg : Str) (n : Nat) (a1 a2 a3 a4 a5 a6 a7 q1 q2 q3 q4 : Pos) : List Stmt := [.Expr (iE msg n a1 a2 a3 a4 a5 a6) a7, .Assign [.Attribute (.Name "self" q1) "at" q2] (.Name "at" q3) q4]
def iS : Scope := { kind := .function, names := [(PySem.Str.ofString "self", .local), (PySem.Str.ofString "at", .local), (PySem.Str.ofString "__class__", .free), (PySem.Str.ofString "super", .globalImplicit)], isGenerator := false, isCoroutine := false, more := [] }
/-- what the written part says of the class, at C, and of its __init__, at fI -/
structure Txt (prog : Program) (K : Frag) (mg : Str → Option Value) (nm : Str) (C fI : Addr) : Prop where
  gC : mg nm = some (.ref C)
  cls : ∃ nm' q N bs bm sn sub ab col dd k0 k1 k2 k3 k5, K.lookup C = some (excClassObj nm' q C N bs bm true sn sub ab col dd k0 k1 k2 k3 k5 "ValueError.__new__") ∧ HandSPX.refsVE bm = true
  sa : findIn K (.ref C) "__setattr__" = some (some (.builtin "object.__setattr__"))
  ga : findIn K (.ref C) "__getattribute__" = some (some (.builtin "BaseException.__getattribute__"))
  gg : findIn K (.ref C) "__getattr__" = some none
  noN : findIn K (.ref C) "at" = some none
  iC : findIn K (.ref C) "__init__" = some (some (.ref fI))
  tC : typeIn K (.ref fI) = some (.type "function")
  kC : keepIn K (.ref C) = true
  exC : subIn K (.ref C) (.type "BaseException") = some true
  tyC : typeIn K (.ref C) = some (.type "type")
  hdC : hasDictIn K C = true
  te : exmOne K (.ref C) (.ref C) = some true
  along : ks_superIn K C C "__init__" = some (some (.builtin "ValueError.__init__"))
  ve : subIn K (.ref C) (.type "ValueError") = some true
  self : mroIn K C (.ref C) = some true
  stat : nsIn K cStatics "thirdparty.any" = some none
  exi : excInitIn K C veMro "ValueError.__new__" = true
  noS : mg "super" = none
  noP : (List.lookup ("super" : Str) prog.main.scope.names).isSome = false
  fn : ∃ (oc : Value) (od : Option Addr) (doc pm : Value) (an : Option Addr) (cdv ct : Value) (osl : Array (Option Value)) (q msg : Str) (n : Nat) (p1 p2 a1 a2 a3 a4 a5 a6 a7 q1 q2 q3 q4 : Pos) (cc : Addr) (oC : Value) (dC : Option Addr) (sC : Array (Option Value)),
    K.lookup fI = some ⟨oc, od, .func (ksFn "__init__" q (iA p1 p2) (iB msg n a1 a2 a3 a4 a5 a6 a7 q1 q2 q3 q4) iS .none .none doc pm an cdv ct cc), osl⟩ ∧ (a3.endLine == a6.line) = true ∧ codeIn K cdv q = true ∧ fileIn prog K cdv = true ∧ K.lookup cc = some ⟨oC, dC, .cell (some (.ref C)), sC⟩
section
variable {prog : Program} {w : World} {A : Around} {E : Value → Shared → Prop} {R : Result → Shared → Prop} {s : Shared} {K : Frag} {mg : Str → Option Value} {nm : Str} {C fI : Addr} {hp : Heap}
theorem ldN {M : Model} {s : Shared} {env : Env} {m : Str → Option Value} {x : Str} {pos : Pos} {v : Value} {Q : Value → Shared → Prop} {A : Around} {E : Value → Shared → Prop} (hn : s.heap.Ns env.locals m) (hv : m x = some v) (h : Q v s)
    (hk : env.scope.kind = .function := by rfl) (hl : env.kindOf x = some .local := by rfl) (hd : (x == ("__debug__" : Str)) = false := by decide) :
    wpAny M A (eval (.Name x pos) env) Q E s := wpAny_Name (wpAny_loadName_local hk hl hn hv h) hd
theorem call_eq {msg : Str} {n : Nat} {a1 a2 a3 a4 a5 a6 : Pos} {env : Env} (h : (a3.endLine == a6.line) = true) : eval (iE msg n a1 a2 a3 a4 a5 a6) env = (do
    let ov ← attributeBase (.Call (.Name "super" a1) [] [] a2) "__init__" env (eval (.Call (.Name "super" a1) [] [] a2) env)
    standAt a3.atName
    match ← holding [ov] (getMethod ov "__init__" (do pure ((← importBound (.Call (.Name "super" a1) [] [] a2) env).getD true))) with
    | (f, first) => callWith a6 f first (backTo a6 (starEach [.Constant (.str msg) n a4, .Name "at" a5] env)) []) := by
  have e : eval (iE msg n a1 a2 a3 a4 a5 a6) env = (do
    let ov ← attributeBase (.Call (.Name "super" a1) [] [] a2) "__init__" env (eval (.Call (.Name "super" a1) [] [] a2) env)
    standAt a3.atName
    methodCall (.Call (.Name "super" a1) [] [] a2) "__init__" a3 a6 env ov 2 (backTo a6 (starEach [.Constant (.str msg) n a4, .Name "at" a5] env)) []) := by rfl
  rw [e]
  congr 1
  funext ov
  congr 1
  funext _
  unfold methodCall methodCallPos
  have z : (!methodCallForm 2 (backTo a6 (starEach [.Constant (.str msg) n a4, .Name "at" a5] env)) [] || a3.endLine == a6.line) = true := by rw [h, Bool.or_true]
  rw [z]
  rfl
theorem init (T : Txt prog K mg nm C fI) (B : L2.Mod K mg hp) {x t0 : Addr} {v : Value} (k0 : ∀ b o, hp.get? b = some o → s.heap.get? b = some o) (hlim : s.heap.NoLimit) (hx : s.heap.get? x = some (excObj C t0 none .none)) (hnx : hp.get? x = none) (hL : hp.objs.size ≤ s.heap.objs.size) (hroom : A.depth < recursionLimit)
    (hq : ∀ h' tk dx t1, (∀ b o, hp.get? b = some o → h'.get? b = some o) → h'.get? x = some { cls := .ref C, dict := some dx, data := .fields #[.ref t1, .none, .none, .none, .bool false, .none] } → hp.objs.size ≤ dx → dx ≠ x → h'.Ns1 dx (fun y => if y = "at" then some v else none) → R (.ok (.ret .none)) { s with heap := h', toks := tk }) :
    codeAny (model prog w) A (.call (.ref fI) ⟨[.ref x, v], []⟩) R s := by
  obtain ⟨oc, od, doc, pm, an, cdv, ct, osl, q, msg, n, p1, p2, a1, a2, a3, a4, a5, a6, a7, q1, q2, q3, q4, cc, oC, dC, sC, ho, hline, hcd, hfile, hcell⟩ := T.fn
  obtain ⟨nm', q', N, bs, bm, sn, sub, ab, col, dd, k0', k1, k2, k3, k5, hC, hbm⟩ := T.cls
  have hcl : clsIn K C = some { name := nm', bases := bs, mro := .ref C :: bm, ns := N, qualname := q', hasDict := true, slotNames := sn, subclasses := sub, abstract := ab, collection := col, hasDel := false } := by unfold clsIn; rw [hC] <;> rfl
  have X0 : K.In hp := B.kin
  have X : K.In s.heap := X0.keeps k0
  refine ks_codeAny_call_defAt (binds := [("self", .ref x), ("at", v)]) hroom (X _ _ ho) rfl hlim (code_of X hcd) rfl (BindsTo.of_eq (by first | rfl | with_unfolding_all rfl)) ?_ ?_ (fun h₁ hn k => ?_) rfl rfl rfl
  · show ∀ x ∈ iS.names, x.2 ≠ NameKind.cell
    decide
  · intro y hy
    rcases List.mem_cons.mp hy with e | hy
    · rw [e]; rfl
    · rw [List.mem_singleton.mp hy]; rfl
  have X₁ : K.In h₁ := X.keeps k
  have hx₁ := k _ _ hx
  have hsx : x < s.heap.objs.size := Heap.lt_size hx
  have hne : s.heap.objs.size ≠ x := Nat.ne_of_gt hsx
  have F1 : Fr hp s.heap.objs.size h₁ (fun y => List.lookup y [(("self" : Str), Value.ref x), ("at", v)].reverse) := ⟨hn, fun b o e => k b o (k0 b o e), hL⟩
  obtain ⟨c, oc', vs, file, tf, hce, hco, hcd', hf2, hfile'⟩ := file_of X₁ hfile
  obtain ⟨mb, hmb, hbi⟩ := B.blt
  have k1' : ∀ b o, hp.get? b = some o → h₁.get? b = some o := fun b o e => k b o (k0 b o e)
  have hCg : h₁.get? C = some _ := X₁ _ _ hC
  show PySem.wpAt _ _ _ (execs (iB msg n a1 a2 a3 a4 a5 a6 a7 q1 q2 q3 q4) _) _ _ _
  refine ks_wpAt_execs_cons (ks_wpAt_Expr_any (ks_wpAt_MethodCall ?_ (call_eq hline)))
  refine ks_wpAt_super_base (by rfl) (by rfl) (by decide) rfl (X₁ _ _ ho) rfl rfl hce hco hcd' hf2 hfile' T.noP ?_
  refine ks_loadName_global (by rfl) (by rfl) (Calls.loadGlobal_builtin (mg := mg) (mb := mb) (B.glob.keeps k1') T.noS (hmb.keeps k1') ((hbi _ (by decide)).trans (by decide +kernel : bootBuiltins "super" = some (.type "super"))) ⟨rfl, ?_⟩)
  refine wpAny_loadName_free (c := cc) (v := .ref C) (by rfl) (by rfl) (by rfl) ⟨_, X₁ _ _ hcell, rfl⟩ ?_
  refine wpAny_loadName_local (v := .ref x) (by rfl) (by rfl) hn (by rfl) ?_
  refine ks_wpAny_isType_cls hCg rfl ⟨rfl, ?_⟩
  refine ks_wpAny_call_super hCg rfl hx₁ rfl (by intro c; intro h; cases h) (looks_mroIn X₁ T.self) fun h₂ hso k2' => ?_
  -- the method, bound
  have hLs : s.heap.objs.size < h₁.objs.size := hn.lt
  have none_big : ∀ b, h₁.objs.size ≤ b → hp.get? b = none := fun b hb => by
    cases e : hp.get? b with
    | none => rfl
    | some o => exact absurd (Heap.lt_size (k _ _ (k0 _ _ e))) (Nat.not_lt.mpr hb)
  have F2 : Fr hp s.heap.objs.size h₂ (fun y => List.lookup y [(("self" : Str), Value.ref x), ("at", v)].reverse) := ⟨F1.ns.keeps k2', fun b o e => k2' b o (F1.keep b o e), hL⟩
  have N2 : News hp s.heap.objs.size h₂ [(h₁.objs.size, ks_superObj C x C), (x, excObj C t0 none .none)] := by
    intro p hpm
    rcases List.mem_cons.mp hpm with e | hpm
    · rw [e]
      exact ⟨hso, Nat.ne_of_gt hLs, none_big _ (Nat.le_refl _)⟩
    · rw [List.mem_singleton.mp hpm]
      exact ⟨k2' _ _ hx₁, Ne.symm hne, hnx⟩
  refine kxs_method (odx := none) kxs_ValueError F2 X0 N2 List.mem_cons_self ⟨k2' _ _ hx₁, rfl, rfl, trivial⟩ T.stat T.along T.ve (by decide) fun u h₃ F3 N3 lt3 => ?_
  refine kxs_callWith1 N3 List.mem_cons_self ?_
  refine Calls.spliced_cons (wpAny_Constant_str (k := n) (pos := a4) ?_)
  refine Calls.spliced_cons (ldN (pos := a5) F3.ns (by rfl) ?_)
  refine Calls.spliced_nil ⟨(N3 _ List.mem_cons_self).1, ?_⟩
  have hxu : ∀ p ∈ ([] : List (Addr × Obj)), p.1 ≠ x := fun p hp => absurd hp List.not_mem_nil
  refine kxs_call F3 X0 N3 F.excBase_ValueError T.exi List.mem_cons_self (.tail ?_ (.tail ?_ (.head hxu))) ?_ fun t' h₄ F4 N4 lt4 => ?_
  · exact Nat.ne_of_gt (lt3 _ (List.mem_cons_of_mem _ List.mem_cons_self))
  · exact Nat.ne_of_gt (Nat.lt_trans hsx hLs)
  · rw [sizeLine_eq]
    exact (by decide : 2 ≤ 16777216)
  -- self.f = f
  have X₄ : K.In h₄ := X0.keeps F4.keep
  have hx₄ : h₄.get? x = some (excObj C t' none .none) := (N4 _ (List.mem_cons_of_mem _ (List.mem_cons_of_mem _ (List.mem_cons_of_mem _ List.mem_cons_self)))).1
  refine ks_wpAt_execs_cons (PySem.wpAt_of_wpAny (plainObj_wpAny_Assign_Attribute ?_))
  refine ldN F4.ns (by rfl) (ldN F4.ns (by rfl) ?_)
  refine set_plain X₄ (ox := excObj C t' none .none) (od := none) ⟨hx₄, rfl, rfl, trivial⟩ T.sa ?_
  refine HandSPX.exc_osa X₄ hx₄ hcl (show HandSPX.refsVE (.ref C :: bm) = true from hbm) rfl T.noN (fun h₅ tk₅ dx k₅ dn dne hx₅ hn₅ => ?_)
  have z : s.heap.objs.size < h₄.objs.size := F4.ns.lt
  refine PySem.wpAt_of_wpAny (wpAny_execs_nil ?_)
  exact hq h₅ tk₅ dx t' (fun b o e => k₅ b o (fun q => by rw [q, hnx] at e; cases e) (F4.keep b o e)) hx₅ (Nat.le_trans hL (Nat.le_of_lt (Nat.lt_of_lt_of_le z dn))) dne hn₅
/-- a made one -/
structure Made (h h' : Heap) (e C d : Addr) (v : Value) : Prop where
  keep : ∀ b o, h.get? b = some o → h'.get? b = some o
  new : h.objs.size ≤ e
  obj : ∃ oe vs, h'.get? e = some oe ∧ oe.cls = .ref C ∧ oe.dict = some d ∧ oe.data = .fields vs ∧ vs[1]? = some .none
  dbig : h.objs.size ≤ d
  dne : d ≠ e
  ns : h'.Ns1 d (fun y => if y = "at" then some v else none)
theorem made (T : Txt prog K mg nm C fI) {v : Value} (B : L2.Mod K mg s.heap) (hroom : A.depth + 1 < recursionLimit)
    (hq : ∀ h' tk e d, Made s.heap h' e C d v → R (.ok (.ret (.ref e))) { s with heap := h', toks := tk }) :
    codeAny (model prog w) A (.call (.ref C) ⟨[v], []⟩) R s := by
  obtain ⟨nm', q, N, bs, bm, sn, sub, ab, col, dd, k0, k1, k2, k3, k5, hC, hbm⟩ := T.cls
  have X := B.kin
  have hlim := B.nolimit
  obtain ⟨hp, g, dr, tk, os⟩ := s
  have k : ∀ b o, hp.get? b = some o → ((hp.push (kdv_tup [v])).push (HandSPX.excO C hp.objs.size)).get? b = some o := fun b o e => Heap.get?_push_of_some _ (Heap.get?_push_of_some _ e)
  have hget : ((hp.push (kdv_tup [v])).push (HandSPX.excO C hp.objs.size)).get? (hp.objs.size + 1) = some (HandSPX.excO C hp.objs.size) := by heap_get
  have hnx : hp.get? (hp.objs.size + 1) = none := by
    cases e : hp.get? (hp.objs.size + 1) with
    | none => rfl
    | some o => exact absurd (Nat.lt_of_succ_lt (Heap.lt_size e)) (Nat.lt_irrefl _)
  refine HandSPX.call_own F.excBase_ValueError (fun X => HandSPX.refsVE_contains X bm hbm) (X _ _ hC) (looks_findIn X T.iC) (fun self => bind_fn X self T.tC) (by rw [sizeLine_eq]; exact (by decide : 1 ≤ 16777216)) ?_
  refine init (s := ⟨(hp.push (kdv_tup [v])).push (HandSPX.excO C hp.objs.size), g, dr, tk, os⟩) (hp := hp) T B k (hlim.keeps k) hget hnx ?_ ?_ fun h' tk' dx t1 k' hx dn dne hns => ?_
  · show hp.objs.size ≤ ((hp.push (kdv_tup [v])).push (HandSPX.excO C hp.objs.size)).objs.size
    rw [Heap.size_push, Heap.size_push]
    omega
  · show A.depth + 1 < recursionLimit
    exact hroom
  · exact ⟨rfl, hq h' tk' (hp.objs.size + 1) dx ⟨k', Nat.le_succ _, ⟨_, _, hx, rfl, rfl, rfl, rfl⟩, dn, dne, hns⟩⟩
end
end Exc_at
end Fl
namespace L2
open PySem PySem.Spec PyProof.Rows
namespace Exc_at
theorem relO {v : V} {v' : Value} (r : RelV v v') (f : Str) : RelO (List.lookup f [(("at" : Str), v)]) (if f = "at" then some v' else none) := by
  by_cases hw : f = "at"
  · subst hw
    rw [if_pos rfl]
    have q : List.lookup ("at" : Str) [(("at" : Str), v)] = some v := by simp [List.lookup]
    rw [q]
    exact r
  · rw [if_neg hw]
    have qw : (f == ("at" : Str)) = false := by simpa using hw
    have q2 : List.lookup f [(("at" : Str), v)] = none := by simp [List.lookup, qw]
    rw [q2]
    trivial
section
variable {X : Cx} {nm : Str} {C fI : Addr}
/-- C(e) -/
def tMk (C : Addr) (ta : TA) : St → Hp → XK → Prop := fun σ H Q => ta σ H fun vs H1 => ∃ v, vs = [v] ∧ ∀ d, H1 d = none → Q (.ref C) (some d) (upd H1 d (.xd [(("at" : Str), v)]))
theorem pmk {a : Expr} {ta : TA} {p pos : Pos} {k : Nat} (hg : Gl X nm) (T : Fl.Exc_at.Txt X.prog X.K X.mg nm C fI) (hr : Room k X.A) (ha : PA X [a] ta)
    (hd : (nm == ("__debug__" : Str)) = false := by decide)
    (he : starEach (a :: []) X.env = (false, eval a X.env) :: starEach [] X.env := by rfl) (hpl : (backTo pos (starEach [] X.env)).any (·.1) = false := by rfl) :
    PMk X (.Call (.Name nm p) [a] [] pos) (tMk C ta) := by
  intro pins s σ H Q I h
  refine wpAny_Call_Name_kw (ld_glob I hg T.gC ?_ hd)
  refine PySem.W.callWith_K (h₀ := X.base) I.ok.mod.kin T.kC (thn (ha.run pos pins s σ H _ I h) fun us s1 hh => ?_) he hpl
  obtain ⟨vs, H1, I1, r1, v, ev, q1⟩ := hh
  subst ev
  refine ⟨I1.kIn, ?_⟩
  cases r1 with
  | cons rv rn =>
    rename_i v' us'
    cases rn
    show wpAny _ _ (call (.ref C) [v']) _ _ _
    have B := Fl.inv_mod I1
    obtain ⟨hp, g, dr, tk, os⟩ := s1
    refine wpAny_call (Fl.Exc_at.made T B (by have := hr.dp; omega) fun h' tk' e d M => ?_)
    show MkP X pins σ Q (.ref e) ⟨h', g, dr, tk', os⟩
    obtain ⟨oe, fv, hoe, hc, hd, hdat, h1⟩ := M.obj
    have hns := M.ns
    obtain ⟨G', g1, g2⟩ := restrict h' fun b => decide (b ≠ e)
    have gk : ∀ b, b ≠ e → G'.get? b = h'.get? b := fun b hb => g1 b (decide_eq_true hb)
    have ge : G'.get? e = none := g2 e (by simp)
    have old : ∀ b o, hp.get? b = some o → G'.get? b = some o := fun b o q => (gk b (Nat.ne_of_lt (Nat.lt_of_lt_of_le (Heap.lt_size q) M.new))).trans (M.keep b o q)
    have ob : ObjOk X.prog X.w (upd H1 d (.xd [(("at" : Str), v)])) G' d (.xd [(("at" : Str), v)]) :=
      ⟨_, hns.at (fun o q => (gk d M.dne).trans q), fun f => relO rv f⟩
    have J : Inv X pins σ (upd H1 d (.xd [(("at" : Str), v)])) ⟨G', g, dr, tk', os⟩ := I1.laid (t' := tk') old M.dbig ob
    refine ⟨e, oe, fv, ⟨G', g, dr, tk', os⟩, _, .ref C, some d, rfl, J, fun b o q => ?_, ge, hoe, ⟨hc, hd⟩, hdat, h1, ?_, rfl, I1.bare, raises_own T.exC T.tyC, q1 d (I1.hok.fresh M.dbig)⟩
    · by_cases hb : b = e
      · have q' : G'.get? b = some o := q
        rw [hb, ge] at q'; cases q'
      · exact (gk b hb).symm.trans q
    · rw [upd_ne (Ne.symm M.dne)]
      exact I1.hok.fresh M.new
/-- raise C(e) -/
def tRaise (C : Addr) (W : WX) (ta : TA) : TS := fun _ σ H => tMk C ta σ H fun cls d H' => W cls d σ H'
theorem ps_raiseE {a : Expr} {ta : TA} {W : WX} {p pos pos2 : Pos} {k : Nat} (hc : X.calm = true) (hg : Gl X nm) (T : Fl.Exc_at.Txt X.prog X.K X.mg nm C fI) (hr : Room k X.A) (tk : Takes X W) (ha : PA X [a] ta)
    (hd : (nm == ("__debug__" : Str)) = false := by decide)
    (he : starEach (a :: []) X.env = (false, eval a X.env) :: starEach [] X.env := by rfl) (hpl : (backTo pos (starEach [] X.env)).any (·.1) = false := by rfl) :
    PS X (.Raise (some (.Call (.Name nm p) [a] [] pos)) none pos2) (tRaise C W ta) := ps_raise hc tk (pmk hg T hr ha hd he hpl)
/-- e.f, e the exception that the suite holds (at a; its class cls, its dict d) -/
def tBy (C : Addr) (a : Addr) (cls : Value) (d : Option Addr) (te : TE) : TE := fun σ H Q => te σ H fun x H1 => x = .ref a ∧ cls = .ref C ∧ ∃ (dd : Addr) (v : V), d = some dd ∧ H1 dd = some (.xd [(("at" : Str), v)]) ∧ Q v H1
theorem pe_by {a : Addr} {oe : Obj} {cls : Value} {d : Option Addr} {pn : List (Addr × Obj)} {e : Expr} {te : TE} {pos : Pos} (T : Fl.Exc_at.Txt X.prog X.K X.mg nm C fI) (hz : Zc cls d oe) (hf : ∃ vs, oe.data = .fields vs) (he : PE (X.suite a ((a, oe) :: pn)) e te)
    (hb : attributeBase e "at" X.env (eval e X.env) = eval e X.env := by rfl) :
    PE (X.suite a ((a, oe) :: pn)) (.Attribute e "at" pos) (tBy C a cls d te) := by
  refine ⟨fun pins s σ H Q I h => ?_⟩
  refine attr_of hb (thn (he.run pins s σ H _ I h) fun u s1 hh => ?_)
  obtain ⟨x, H1, I1, rx, ex, ec, dd, v, ed, ea, q⟩ := hh
  subst ex
  obtain rfl : u = Value.ref a := rx
  subst ec
  subst ed
  obtain ⟨ha, _⟩ := I1.pin (a, oe) (List.mem_append_left _ List.mem_cons_self)
  obtain ⟨vs, hd⟩ := hf
  have hx : ObjOk X.prog X.w H1 s1.heap dd (.xd [(("at" : Str), v)]) := I1.hok dd _ ea
  obtain ⟨mA, hns, hr⟩ := hx
  obtain ⟨od, ho, hl⟩ := lookIn_ns hns
  have l : List.lookup ("at" : Str) [(("at" : Str), v)] = some v := by simp [List.lookup]
  obtain ⟨u, hu, ru⟩ := RelO.some_of (v := v) (o := mA "at") (by rw [← l]; exact hr "at")
  have J : PySem.W.InstAt s1.heap a oe C (some od) := ⟨ha, hz.1, by unfold PySem.W.notCls; rw [hd] <;> rfl, by rw [hz.2]; exact ho⟩
  exact HandSPX.exc_get I1.kIn J T.ga T.gg T.exC (PySem.W.findObj_own T.hdC T.noN rfl (by rw [hl, hu])) (handed_of ru) ⟨v, H1, I1.tok _, ru, q⟩
end
end Exc_at
end L2

namespace Fl
open PySem L2 Evl TL StX
/-- the classes' addresses -/
structure Ad where
  C_Rule : Addr := 0
  C_InvalidRule : Addr := 0
/-- what the written part says of the classes -/
structure Tx (K : PySem.W.Frag) (A : Ad) : Prop where
  cl_Rule : Cls K A.C_Rule
  na_flag : NoAttr K A.C_Rule "flag"
  na_stuffs : NoAttr K A.C_Rule "stuffs"
  i_class : PySem.W.findIn K (.ref A.C_Rule) "__class__" = some (some (.builtin "object.__class__"))
  i_special : PySem.W.specialIn K (.builtin "object.__class__") "__get__" = some (some (.builtin "getset_descriptor.__get__"))
  i_takes : PySem.W.takesIn K (.builtin "object.__class__") = some true
  i_object : PySem.W.mroIn K A.C_Rule (.type "object") = some true
  k_str : PySem.W.kitOne K (.ref A.C_Rule) (.type "str") = some false
  k_int : PySem.W.kitOne K (.ref A.C_Rule) (.type "int") = some false
  k_list : PySem.W.kitOne K (.ref A.C_Rule) (.type "list") = some false
  k_tuple : PySem.W.kitOne K (.ref A.C_Rule) (.type "tuple") = some false
  te_InvalidRule : PySem.W.exmOne K (.ref A.C_InvalidRule) (.ref A.C_InvalidRule) = some true

/-! ### rules, as data -/
abbrev St' := List (W × Bool)
def putW (st : St') (l : W) : Option Bool := (st.find? fun s => endsW l s.1).map (·.2)
def lonW (st : St') : Nat := st.foldl (fun m s => max m s.1.length) 0
def optV : Option Bool → V
  | none => .non
  | some b => .str (S [b])
def PairAt (K : PySem.W.Frag) (H : Hp) (v : V) (s : W × Bool) : Prop := ∃ p, v = .ref p ∧ SqT K H p [.str (S s.1), .str (S [s.2])]
theorem PairAt.mono {K : PySem.W.Frag} {H H' : Hp} {v : V} {s : W × Bool} (e : Ex H H') (h : PairAt K H v s) : PairAt K H' v s := by
  obtain ⟨p, h1, h2⟩ := h
  exact ⟨p, h1, ex_t e h2⟩
def StL (K : PySem.W.Frag) (H : Hp) (xs : List V) (st : St') : Prop := Paired (PairAt K H) xs st
theorem StL.mono {K : PySem.W.Frag} {H H' : Hp} {xs : List V} {st : St'} (e : Ex H H') (h : StL K H xs st) : StL K H' xs st := Paired.mapP h fun _ _ q => q.mono e
def flds (flag : W) (t : Addr) : List (Str × V) := [("flag", .str (S flag)), ("stuffs", .ref t)]
theorem flds_flag (f : W) (t : Addr) : (flds f t).lookup ("flag" : Str) = some (V.str (S f)) := by
  unfold flds
  rw [List.lookup_cons_self]
theorem ne_fs : (("stuffs" : Str) == "flag") = false := by decide +kernel
theorem flds_stuffs (f : W) (t : Addr) : (flds f t).lookup ("stuffs" : Str) = some (V.ref t) := by
  unfold flds
  rw [List.lookup_cons, ne_fs, List.lookup_cons_self]
theorem flds_no (f : W) (t : Addr) {m : Str} (h1 : (m == "flag") = false) (h2 : (m == "stuffs") = false) : (flds f t).lookup m = none := by
  unfold flds
  rw [List.lookup_cons, h1, List.lookup_cons, h2]
  rfl
structure RuleAt (K : PySem.W.Frag) (A : Ad) (H : Hp) (a : Addr) (f : W) (st : St') : Prop where
  ob : ∃ dx t ps, H a = some (.ins A.C_Rule dx (flds f t)) ∧ SqT K H t ps ∧ StL K H ps st
theorem RuleAt.mono {K : PySem.W.Frag} {A : Ad} {H H' : Hp} {a : Addr} {f : W} {st : St'} (e : Ex H H') (h : RuleAt K A H a f st) : RuleAt K A H' a f st := by
  obtain ⟨dx, t, ps, h1, h2, h3⟩ := h
  exact ⟨dx, t, ps, e a _ h1, ex_t e h2, h3.mono e⟩
/-! ### any values, as trees -/
inductive Dt where
  | non | bl (b : Bool) | int (i : Int) | str (s : Str) | tup (xs : List Dt) | lst (xs : List Dt) | rule (f : W) (st : St')
mutual
inductive DtAt (K : PySem.W.Frag) (A : Ad) (H : Hp) : V → Dt → Prop
  | non : DtAt K A H .non .non
  | bl (b : Bool) : DtAt K A H (.bl b) (.bl b)
  | int (i : Int) : DtAt K A H (.int i) (.int i)
  | str (s : Str) : s.length ≤ 40000 → DtAt K A H (.str s) (.str s)
  | tup {p : Addr} {vs : List V} {xs : List Dt} : SqT K H p vs → DtsAt K A H vs xs → xs.length ≤ 1000 → DtAt K A H (.ref p) (.tup xs)
  | lst {p : Addr} {vs : List V} {xs : List Dt} : SqL K H p vs → DtsAt K A H vs xs → xs.length ≤ 1000 → DtAt K A H (.ref p) (.lst xs)
  | rule {a : Addr} {f : W} {st : St'} : RuleAt K A H a f st → DtAt K A H (.ref a) (.rule f st)
inductive DtsAt (K : PySem.W.Frag) (A : Ad) (H : Hp) : List V → List Dt → Prop
  | nil : DtsAt K A H [] []
  | cons {v : V} {d : Dt} {vs : List V} {xs : List Dt} : DtAt K A H v d → DtsAt K A H vs xs → DtsAt K A H (v :: vs) (d :: xs)
end
section
variable {K : PySem.W.Frag} {A : Ad} {H H' : Hp}
mutual
theorem DtAt.mono (e : Ex H H') : ∀ {v : V} {d : Dt}, DtAt K A H v d → DtAt K A H' v d
  | _, _, .non => .non
  | _, _, .bl b => .bl b
  | _, _, .int i => .int i
  | _, _, .str s h => .str s h
  | _, _, .tup h1 h2 h3 => .tup (ex_t e h1) (DtsAt.mono e h2) h3
  | _, _, .lst h1 h2 h3 => .lst (ex_l e h1) (DtsAt.mono e h2) h3
  | _, _, .rule h => .rule (h.mono e)
theorem DtsAt.mono (e : Ex H H') : ∀ {vs : List V} {xs : List Dt}, DtsAt K A H vs xs → DtsAt K A H' vs xs
  | _, _, .nil => .nil
  | _, _, .cons h1 h2 => .cons (DtAt.mono e h1) (DtsAt.mono e h2)
end
theorem DtsAt.length : ∀ {vs : List V} {xs : List Dt}, DtsAt K A H vs xs → vs.length = xs.length
  | _, _, .nil => rfl
  | _, _, .cons _ h => by rw [List.length_cons, List.length_cons, DtsAt.length h]
theorem DtsAt.get : ∀ {vs : List V} {xs : List Dt} {i : Nat} {v : V}, DtsAt K A H vs xs → vs[i]? = some v → ∃ d, xs[i]? = some d ∧ DtAt K A H v d
  | _, _, _, _, .nil, h => by simp at h
  | _, _, 0, _, .cons (d := d) h1 _, h => ⟨d, rfl, by cases h; exact h1⟩
  | _, _, i + 1, _, .cons _ h2, h => DtsAt.get (i := i) h2 (by simpa using h)
theorem DtsAt.get' : ∀ {vs : List V} {xs : List Dt} {i : Nat} {d : Dt}, DtsAt K A H vs xs → xs[i]? = some d → ∃ v, vs[i]? = some v ∧ DtAt K A H v d
  | _, _, _, _, .nil, h => by simp at h
  | _, _, 0, _, .cons (v := v) h1 _, h => ⟨v, rfl, by cases h; exact h1⟩
  | _, _, i + 1, _, .cons _ h2, h => DtsAt.get' (i := i) h2 (by simpa using h)
/-! ### the type of a value -/
def dtTy (A : Ad) : Dt → Value
  | .non => .type "NoneType"
  | .bl _ => .type "bool"
  | .int _ => .type "int"
  | .str _ => .type "str"
  | .tup _ => .type "tuple"
  | .lst _ => .type "list"
  | .rule _ _ => .ref A.C_Rule
theorem ty_T {p : Addr} {xs : List V} : SqT K H p xs → TyX K H (.ref p) (.type "tuple")
  | .inl (.inl h) => .base (.tup h)
  | .inl (.inr ⟨_, h⟩) => .fTuple h
  | .inr ⟨_, _, _, h1, h2, _⟩ => .kTuple h1 h2
theorem ty_L {p : Addr} {xs : List V} : SqL K H p xs → TyX K H (.ref p) (.type "list")
  | .inl (.inl h) => .base (.lst h)
  | .inl (.inr ⟨_, h⟩) => .base (.frz h)
  | .inr ⟨_, _, _, h1, h2, _⟩ => .kList h1 h2
theorem tyX_of (T : Tx K A) {v : V} {d : Dt} (h : DtAt K A H v d) : TyX K H v (dtTy A d) := by
  cases h with
  | non => exact .base .non
  | bl b => exact .base (.bl b)
  | int i => exact .base (.int i)
  | str s _ => exact .base (.str s)
  | tup h _ _ => exact ty_T h
  | lst h _ _ => exact ty_L h
  | rule h =>
    obtain ⟨dx, t, ps, h1, _⟩ := h.ob
    exact .base (.ins h1 T.cl_Rule T.i_class T.i_special T.i_takes T.i_object)
theorem tyX_mono {v : V} {t : Value} (e : Ex H H') (h : TyX K H v t) : TyX K H' v t := by
  cases h with
  | base h =>
    cases h with
    | non => exact .base .non
    | bl b => exact .base (.bl b)
    | int i => exact .base (.int i)
    | str s => exact .base (.str s)
    | flt s => exact .base (.flt s)
    | lst h => exact .base (.lst (e _ _ h))
    | frz h => exact .base (.frz (e _ _ h))
    | tup h => exact .base (.tup (e _ _ h))
    | dK h => exact .base (.dK (e _ _ h))
    | dT h => exact .base (.dT (e _ _ h))
    | ins h a b c d f => exact .base (.ins (e _ _ h) a b c d f)
  | byt b => exact .byt b
  | set h => exact .set (e _ _ h)
  | kList h1 h2 => exact .kList h1 h2
  | kTuple h1 h2 => exact .kTuple h1 h2
  | kDict h1 h2 => exact .kDict h1 h2
  | fTuple h => exact .fTuple (e _ _ h)
  | fDict h => exact .fDict (e _ _ h)
def isStrD : Dt → Bool | .str _ => true | _ => false
def isTupD : Dt → Bool | .tup _ => true | _ => false
def isLstD : Dt → Bool | .lst _ => true | _ => false
def isBoolD : Dt → Bool | .bl _ => true | _ => false
def isIntD : Dt → Bool | .int _ => true | .bl _ => true | _ => false
theorem kit_str (T : Tx K A) (d : Dt) : PySem.W.kitOne K (dtTy A d) (.type "str") = some (isStrD d) := by
  cases d <;> first | exact T.k_str | exact (kit_ty (r := false) (by decide +kernel)) | exact (kit_ty (r := true) (by decide +kernel))
theorem kit_tup (T : Tx K A) (d : Dt) : PySem.W.kitOne K (dtTy A d) (.type "tuple") = some (isTupD d) := by
  cases d <;> first | exact T.k_tuple | exact (kit_ty (r := false) (by decide +kernel)) | exact (kit_ty (r := true) (by decide +kernel))
theorem kit_lst (T : Tx K A) (d : Dt) : PySem.W.kitOne K (dtTy A d) (.type "list") = some (isLstD d) := by
  cases d <;> first | exact T.k_list | exact (kit_ty (r := false) (by decide +kernel)) | exact (kit_ty (r := true) (by decide +kernel))
theorem kit_int (T : Tx K A) (d : Dt) : PySem.W.kitOne K (dtTy A d) (.type "int") = some (isIntD d) := by
  cases d <;> first | exact T.k_int | exact (kit_ty (r := false) (by decide +kernel)) | exact (kit_ty (r := true) (by decide +kernel))
end
end Fl

namespace Fl
open PySem L2 Evl TL StX
/-! ### lists or tuples -/
def iSeq (K : PySem.W.Frag) (te : TE) : TI := fun σ H R => iList K te σ H R ∨ iTup K te σ H R
def iEnumQ (K : PySem.W.Frag) (ta : TA) : TI := fun σ H R => iEnum K ta σ H R ∨ iEnumT K ta σ H R
def rSlQ (K : PySem.W.Frag) : V → Option Int → Option Int → Hp → VK → Prop := fun x lo hi H Q => rSlL K x lo hi H Q ∨ rSlA K x lo hi H Q
theorem pi_seq {X : Cx} {tg e : Expr} {te : TE} (h : PE X e te) : PI X tg e (iSeq X.K te) := PI.or (pi_list h) (pi_tup h)
theorem pi_enumQ {X : Cx} {e : Expr} {ta : TA} {p pos tpos : Pos} {elts : List Expr} {kk : Nat} (hg : Gl X "enumerate") (hm : X.mg "enumerate" = none) (ha : PA X [e] ta) (hs : starEach [e] X.env = [(false, eval e X.env)] := by rfl) :
    PI X (.Tuple elts kk tpos) (.Call (.Name "enumerate" p) [e] [] pos) (iEnumQ X.K ta) := PI.or (pi_enum hg hm ha hs) (pi_enumT hg hm ha hs)
theorem sl_seq {X : Cx} : SlR X (rSlQ X.K) := SlR.or sl_list sl_tupA
section
variable {K : PySem.W.Frag} {A : Ad} {σ : L2.St} {H H' : Hp} {ta te tb : TE} {tr : TA} {vs : List V} {D : Ends} {v : V} {d : Dt}
/-- a list or a tuple of such items -/
def SqQ (K : PySem.W.Frag) (H : Hp) (p : Addr) (xs : List V) : Prop := SqL K H p xs ∨ SqT K H p xs
theorem SqQ.mono {p : Addr} {xs : List V} (e : Ex H H') (h : SqQ K H p xs) : SqQ K H' p xs := h.elim (fun h => .inl (ex_l e h)) (fun h => .inr (ex_t e h))
theorem walk_g {J : It} {n : Nat} {G G' : Hp → Prop} {Y : Nat → Hp → V → Hp → Prop} (w : Walk J n G Y) (h : ∀ H, G' H → G H) : Walk J n G' Y := w.mono h fun _ _ _ _ _ _ y => y
theorem src_seq {a : Addr} {xs : List V} (h : Ev te σ H (.ref a)) (hx : SqQ K H a xs) : ∃ G, (∀ H', Ex H H' → G H') ∧ Src (iSeq K te) σ H xs.length G (YAt xs) := by
  rcases hx with hx | hx
  · exact ⟨_, fun H' e => ex_l e hx, src_or1 (src_list h hx)⟩
  · exact ⟨_, fun H' e => ex_t e hx, src_or2 (src_tup h hx)⟩
theorem src_enumQ {a : Addr} {xs : List V} (h : EvA tr σ H [.ref a]) (hx : SqQ K H a xs) : ∃ G, (∀ H', Ex H H' → G H') ∧ Src (iEnumQ K tr) σ H xs.length G (YPair (fun i => some (.int (i : Nat))) (fun i => xs[i]?)) := by
  rcases hx with hx | hx
  · exact ⟨_, fun H' e => ex_l e hx, src_or1 (src_enumL h hx)⟩
  · exact ⟨_, fun H' e => ex_t e hx, src_or2 (src_enumT h hx)⟩
/-- evaluates to a list or a tuple of xs -/
def EvQ (K : PySem.W.Frag) (te : TE) (σ : L2.St) (H : Hp) (xs : List V) : Prop := ∀ H1, Ex H H1 → ∀ Q : VK, (∀ p H2, Ex H1 H2 → SqQ K H2 p xs → Q (.ref p) H2) → te σ H1 Q
theorem ea_starQ {ys xs : List V} (h : EvQ K te σ H ys) (hr : EvA tr σ H xs) : EvA (tStar K te tr) σ H (ys ++ xs) := fun H1 e Q q =>
  h H1 e _ fun p H2 e2 hq => ⟨p, ys, rfl, hq.elim .inr .inl, hr H2 (e.trans e2) _ fun H3 e3 => q H3 (e2.trans e3)⟩
theorem ev_slQ {a : Addr} {xs : List V} {tl th : TO} {lo hi : Option Int} (ha : Ev te σ H (.ref a)) (hx : SqQ K H a xs) (h1 : EvO tl σ H lo) (h2 : EvO th σ H hi) : EvQ K (tSl (rSlQ K) te tl th) σ H (cutV xs lo hi) := fun H1 e Q q =>
  ha H1 e _ fun H2 e2 => h1 H2 (e.trans e2) _ fun H3 e3 => h2 H3 ((e.trans e2).trans e3) _ fun H4 e4 => by
    have ex : Ex H1 H4 := (e2.trans e3).trans e4
    rcases hx with hx | hx
    · exact .inl ⟨a, xs, rfl, ex_l (e.trans ex) hx, fun p hp => q p _ (ex.trans (Ex.new hp)) (.inl (sq_of upd_same))⟩
    · refine .inr ⟨a, xs, rfl, ex_t (e.trans ex) hx, fun hw => ?_, fun hw p hp => q p _ (ex.trans (Ex.new hp)) (.inr (st_of upd_same))⟩
      have z : cutV xs lo hi = xs := by
        unfold cutV
        rw [hw.1, hw.2, List.drop_zero, Nat.sub_zero, List.take_length]
      rw [z] at q
      exact q a _ ex (.inr (ex_t (e.trans ex) hx))
theorem cutV_to {xs : List V} {n : Nat} (h : n ≤ xs.length) : cutV xs none (some (n : Int)) = xs.take n := by
  unfold cutV
  have e : HT.sIx xs.length xs.length (some (n : Int)) = n := by
    unfold HT.sIx
    simp only
    rw [if_neg (by omega)]
    simp
    omega
  rw [e]
  rfl
theorem cutV_from {xs : List V} {n : Nat} (h : n ≤ xs.length) : cutV xs (some (n : Int)) none = xs.drop n := by
  unfold cutV
  have e : HT.sIx xs.length 0 (some (n : Int)) = n := by
    unfold HT.sIx
    simp only
    rw [if_neg (by omega)]
    simp
    omega
  rw [e]
  show (xs.drop n).take (xs.length - n) = xs.drop n
  rw [List.take_of_length_le (by simp)]
/-! ### isinstance -/
theorem ev_isi {n : String} {t : Value} {b : Bool} (ha : Ev ta σ H v) (hd : TyX K H v t) (hk : PySem.W.kitOne K t (.type n) = some b) : Ev (tCB (rIsi K) (tCons ta (tCons (tC (.ty n)) tNil))) σ H (.bl b) := fun H1 e Q q =>
  ha H1 e _ fun H2 e2 => ⟨v, .ty n, t, .type n, b, rfl, .ty n, tyX_mono (e.trans e2) hd, hk, q H2 e2⟩
theorem kit_seq (T : Tx K A) (d : Dt) : PySem.W.kitAny K (dtTy A d) [.type "list", .type "tuple"] = some (isLstD d || isTupD d) := by
  unfold PySem.W.kitAny
  rw [kit_lst T d]
  cases isLstD d
  · dsimp only
    unfold PySem.W.kitAny
    rw [kit_tup T d]
    cases isTupD d <;> rfl
  · rfl
theorem ev_isQ (T : Tx K A) (ha : Ev ta σ H v) (hd : DtAt K A H v d) : Ev (tCB (rIsiT K) (tCons ta (tCons (tTup (tCons (tC (.ty "list")) (tCons (tC (.ty "tuple")) tNil))) tNil))) σ H (.bl (isLstD d || isTupD d)) := fun H1 e Q q =>
  ha H1 e _ fun H2 e2 => ⟨by decide, fun p hp => ⟨v, p, [.ty "list", .ty "tuple"], dtTy A d, [.type "list", .type "tuple"], _, rfl, upd_same, .cons (.ty _) (.cons (.ty _) .nil), tyX_mono ((e.trans e2).trans (Ex.new hp)) (tyX_of T hd), kit_seq T d, q _ (e2.trans (Ex.new hp))⟩⟩
/-! ### words among texts -/
def wordOf (s : Str) : Option W := if s.cps.toList.all (fun c => decide (c = 48) || decide (c = 49)) = true then some (s.cps.toList.map fun c => decide (c = 49)) else none
theorem wordOf_S (w : W) : wordOf (S w) = some w := by
  unfold wordOf
  rw [tl_S, if_pos (by rw [List.all_map, List.all_eq_true]; intro b _; cases b <;> rfl), List.map_map]
  congr 1
  have : ((fun c => decide (c = 49)) ∘ bc) = id := by funext b; cases b <;> rfl
  rw [this, List.map_id]
theorem wordOf_some {s : Str} {w : W} (h : wordOf s = some w) : s = S w := by
  unfold wordOf at h
  split at h
  · rename_i ha
    cases h
    apply ext_tl
    show s.cps.toList = (S (s.cps.toList.map fun c => decide (c = 49))).cps.toList
    rw [tl_S, List.map_map]
    conv => lhs; rw [← List.map_id s.cps.toList]
    apply List.map_congr_left
    intro c hc
    have := (List.all_eq_true.mp ha) c hc
    simp at this
    rcases this with rfl | rfl <;> rfl
  · cases h
def wordD : Dt → Option W
  | .str s => wordOf s
  | _ => none
/-! ### is_word -/
def sp_is_word (K : PySem.W.Frag) (A : Ad) : Sp := fun vs H Q _ => ∃ (v : V) (d : Dt), vs = [v] ∧ DtAt K A H v d ∧ RetV (.bl (wordD d).isSome) H Q
def t_is_word (K : PySem.W.Frag) (A : Ad) : TS :=
  (tRet (tAndV (tCB (rIsi K) (tCons (tVar 0) (tCons (tC (.ty "str")) tNil))) (tCB (rAll K) (tCons (tLc (iStr (tVar 0)) (gName 1) tYes (tOp rInS (tVar 1) (tC (.str "01"))) [1]) tNil))))
def YChr (s : Str) : Nat → Hp → V → Hp → Prop := fun i H x H' => H' = H ∧ ∃ c, s.cps.toList[i]? = some c ∧ x = .str ⟨#[c]⟩
theorem src_str {s : Str} (h : Ev te σ H (.str s)) : Src (iStr te) σ H s.cps.toList.length (fun _ => True) (YChr s) := fun H1 e R q =>
  h H1 e _ fun H2 e2 => ⟨s, rfl, q _ H2 e2 (by
    have k : Walk (Its s) s.cps.size (fun _ => True) (fun i H v H' => H' = H ∧ ∃ c, s.cps[i]? = some c ∧ v = .str ⟨#[c]⟩) := walk_str
    rw [← Array.length_toList] at k
    refine k.mono (fun _ h => h) fun i H x H' hi _ y => ?_
    obtain ⟨h1, c, h2, h3⟩ := y
    exact ⟨h1, c, by rw [Array.getElem?_toList]; exact h2, h3⟩)⟩
theorem pure_is_word (T : Tx K A) (vs : List V) (H : Hp) (Q : VK) (E : XK) (h : sp_is_word K A vs H Q E) : t_is_word K A { nx := fun _ H' => Q .non H', rt := Q } (start ["value", "sign"] vs) H := by
  obtain ⟨v, d, rfl, hd, k⟩ := h
  refine s_ret (v := .bl (isStrD d && (wordD d).isSome)) (ev_andV (ev_isi (ev_var rfl) (tyX_of T hd) (kit_str T d)) fun hs => ?_) (by
    have e : (isStrD d && (wordD d).isSome) = (wordD d).isSome := by cases d <;> rfl
    rw [e]
    exact k)
  obtain ⟨s, rfl⟩ : ∃ s, d = .str s := by cases d <;> first | exact ⟨_, rfl⟩ | cases hs
  cases hd with
  | str _ hl =>
    refine ev_is (ev_all (bs := s.cps.toList.map fun c => decide (c ∈ [48, 49])) (el_is (el_lcM s.cps.toList (fun c => .bl (decide (c ∈ [48, 49]))) (src_str (ev_var rfl)) (fun _ _ => trivial) (by rw [Array.length_toList]; exact hl) fun i c x H1 H2 hi e y => ?_) (by rw [List.map_map]; rfl))) ?_
    · obtain ⟨rfl, c', hc, rfl⟩ := y
      rw [hi] at hc
      cases hc
      exact ⟨Ex.refl _, _, fun Q q => g_name q, rfl, ev_inS (ev_var rfl) (ev_lit S_01.symm)⟩
    · congr 1
      show _ = (wordOf s).isSome
      unfold wordOf
      rw [List.all_map]
      have e : (id ∘ fun c : Nat => decide (c ∈ [48, 49])) = fun c => decide (c = 48) || decide (c = 49) := by
        funext c
        simp
      rw [e]
      cases s.cps.toList.all (fun c => decide (c = 48) || decide (c = 49)) <;> rfl
theorem len_is_word : ∀ vs H Q E, sp_is_word K A vs H Q E → vs.length = 1 := by
  rintro vs H Q E ⟨v, d, rfl, _⟩
  rfl
theorem ev_is_word {E : XK} (h : EvA tr σ H [v]) (hd : DtAt K A H v d) : Ev (tCall (sp_is_word K A) [] E tr) σ H (.bl (wordD d).isSome) :=
  ev_call h fun H1 e Q q E => ⟨v, d, rfl, hd.mono e, q⟩
/-! ### is_bit -/
def bitW : Option W → Bool
  | some [_] => true
  | _ => false
def bitD (d : Dt) : Bool := bitW (wordD d)
def sp_is_bit (K : PySem.W.Frag) (A : Ad) : Sp := fun vs H Q _ => ∃ (v : V) (d : Dt), vs = [v] ∧ DtAt K A H v d ∧ RetV (.bl (bitD d)) H Q
def t_is_bit (K : PySem.W.Frag) (A : Ad) : TS :=
  (tRet (tAndV (tCall (sp_is_word K A) [] E0 (tCons (tVar 0) tNil)) (tOp rEq (tCB rLenT (tCons (tVar 0) tNil)) (tC (.int 1)))))
theorem wordD_some {d : Dt} {w : W} (h : wordD d = some w) : d = .str (S w) := by
  cases d <;> first | (rw [wordOf_some (s := _) h]) | cases h
theorem str_small {w : W} (h : DtAt K A H v (.str (S w))) : v = .str (S w) ∧ w.length ≤ 40000 := by
  cases h with
  | str _ h => exact ⟨rfl, by rw [S_len] at h; exact h⟩
theorem pure_is_bit (T : Tx K A) (vs : List V) (H : Hp) (Q : VK) (E : XK) (h : sp_is_bit K A vs H Q E) : t_is_bit K A { nx := fun _ H' => Q .non H', rt := Q } (start ["value"] vs) H := by
  obtain ⟨v, d, rfl, hd, k⟩ := h
  refine s_ret (v := .bl ((wordD d).isSome && bitD d)) (ev_andV (ev_is_word (ea_cons (ev_var rfl) ea_nil) hd) fun hs => ?_) (by
    have e : ((wordD d).isSome && bitD d) = bitD d := by
      unfold bitD
      cases wordD d <;> rfl
    rw [e]
    exact k)
  obtain ⟨w, hw⟩ := Option.isSome_iff_exists.mp hs
  have e := wordD_some hw
  subst e
  obtain ⟨rfl, hl⟩ := str_small hd
  refine ev_is (ev_eqI (ev_lenT (ev_var rfl) (by omega)) ev_c) ?_
  unfold bitD
  rw [hw]
  cases w with
  | nil => rfl
  | cons a r =>
    cases r with
    | nil => rfl
    | cons b r =>
      show V.bl (decide (((a :: b :: r).length : Int) = 1)) = .bl false
      rw [decide_eq_false (by simp only [List.length_cons]; omega)]
theorem len_is_bit : ∀ vs H Q E, sp_is_bit K A vs H Q E → vs.length = 1 := by
  rintro vs H Q E ⟨v, d, rfl, _⟩
  rfl
theorem ev_is_bit {E : XK} (h : EvA tr σ H [v]) (hd : DtAt K A H v d) : Ev (tCall (sp_is_bit K A) [] E tr) σ H (.bl (bitD d)) :=
  ev_call h fun H1 e Q q E => ⟨v, d, rfl, hd.mono e, q⟩
/-! ### is_sequence -/
def sp_is_sequence (K : PySem.W.Frag) (A : Ad) : Sp := fun vs H Q _ => ∃ (v : V) (d : Dt), vs = [v] ∧ DtAt K A H v d ∧ RetV (.bl (isLstD d || isTupD d)) H Q
def t_is_sequence (K : PySem.W.Frag) (A : Ad) : TS :=
  (tRet (tCB (rIsiT K) (tCons (tVar 0) (tCons (tTup (tCons (tC (.ty "list")) (tCons (tC (.ty "tuple")) tNil))) tNil))))
theorem pure_is_sequence (T : Tx K A) (vs : List V) (H : Hp) (Q : VK) (E : XK) (h : sp_is_sequence K A vs H Q E) : t_is_sequence K A { nx := fun _ H' => Q .non H', rt := Q } (start ["value"] vs) H := by
  obtain ⟨v, d, rfl, hd, k⟩ := h
  exact s_ret (v := .bl (isLstD d || isTupD d)) (ev_isQ T (ev_var rfl) hd) k
theorem len_is_sequence : ∀ vs H Q E, sp_is_sequence K A vs H Q E → vs.length = 1 := by
  rintro vs H Q E ⟨v, d, rfl, _⟩
  rfl
theorem ev_is_sequence {E : XK} (h : EvA tr σ H [v]) (hd : DtAt K A H v d) : Ev (tCall (sp_is_sequence K A) [] E tr) σ H (.bl (isLstD d || isTupD d)) :=
  ev_call h fun H1 e Q q E => ⟨v, d, rfl, hd.mono e, q⟩
/-! ### is_stuff -/
def stuffW : Option W → Option W → Option (W × Bool)
  | some (x :: w), some [c] => some (x :: w, c)
  | _, _ => none
theorem stuffW_is (o u : Option W) : (stuffW o u).isSome = (o.isSome && (decide (0 < (o.getD []).length) && bitW u)) := by
  match o, u with
  | none, _ => rfl
  | some [], _ => rfl
  | some (x :: w), none => simp [stuffW, bitW]
  | some (x :: w), some [] => simp [stuffW, bitW]
  | some (x :: w), some [c] => simp [stuffW, bitW]
  | some (x :: w), some (c :: c' :: r) => simp [stuffW, bitW]
def stuffOf : Dt → Option (W × Bool)
  | .tup [a, b] => stuffW (wordD a) (wordD b)
  | _ => none
theorem stuffOf_some {d : Dt} {s : W × Bool} (h : stuffOf d = some s) : d = .tup [.str (S s.1), .str (S [s.2])] ∧ s.1 ≠ [] := by
  unfold stuffOf at h
  split at h
  · rename_i a b
    unfold stuffW at h
    split at h
    · rename_i x w c h1 h2
      cases h
      rw [wordD_some h1, wordD_some h2]
      exact ⟨rfl, fun e => by cases e⟩
    · cases h
  · cases h
theorem stuffOf_of {w : W} {b : Bool} (h : w ≠ []) : stuffOf (.tup [.str (S w), .str (S [b])]) = some (w, b) := by
  show stuffW (wordOf (S w)) (wordOf (S [b])) = _
  rw [wordOf_S, wordOf_S]
  cases w with
  | nil => exact absurd rfl h
  | cons a r => rfl
def sp_is_stuff (K : PySem.W.Frag) (A : Ad) : Sp := fun vs H Q _ => ∃ (v : V) (d : Dt), vs = [v] ∧ DtAt K A H v d ∧ RetV (.bl (stuffOf d).isSome) H Q
def t_is_stuff (K : PySem.W.Frag) (A : Ad) : TS :=
  (tSeq (tIfS (tOr (tNot (tB (tCB (rIsi K) (tCons (tVar 0) (tCons (tC (.ty "tuple")) tNil))))) (tTest (tOp rNe (tCB (rLenS K) (tCons (tVar 0) tNil)) (tC (.int 2))))) (tRet (tC (.bl false))) tNext)
    (tRet (tAndV (tCall (sp_is_word K A) [] E0 (tCons (tOp (rIxT K) (tVar 0) (tC (.int 0))) tNil)) (tAndV (tOp rGtI (tCB rLenT (tCons (tOp (rIxT K) (tVar 0) (tC (.int 0))) tNil)) (tC (.int 0))) (tCall (sp_is_bit K A) [] E0 (tCons (tOp (rIxT K) (tVar 0) (tC (.int 1))) tNil))))))
theorem pure_is_stuff (T : Tx K A) (vs : List V) (H : Hp) (Q : VK) (E : XK) (h : sp_is_stuff K A vs H Q E) : t_is_stuff K A { nx := fun _ H' => Q .non H', rt := Q } (start ["value"] vs) H := by
  obtain ⟨v, d, rfl, hd, k⟩ := h
  by_cases ht : isTupD d = true
  · obtain ⟨xs, rfl⟩ : ∃ xs, d = .tup xs := by cases d <;> first | exact ⟨_, rfl⟩ | cases ht
    cases hd with
    | tup hp hx hn =>
      rename_i p vs
      have hl := hx.length
      refine q_when (et_or (et_not (et_B (ev_isi (n := "tuple") (b := true) (ev_var rfl) (ty_T hp) (kit_ty (by decide +kernel))))) fun _ => et_test (ev_neI (ev_lenST (ev_var rfl) hp) ev_c)) (fun hb H1 e1 => ?_) (fun hb H1 e1 => ?_)
      · have h2 : xs.length ≠ 2 := by
          intro e
          have hb' : (!true || !decide ((vs.length : Int) = 2)) = true := hb
          rw [hl, e] at hb'
          exact absurd hb' (by decide)
        refine s_ret (v := .bl false) ev_c fun H2 e2 => ?_
        have z : stuffOf (.tup xs) = none := by
          unfold stuffOf
          split
          · rename_i e
            cases e
            exact absurd rfl h2
          · rfl
        have q := k H2 (e1.trans e2)
        rw [z] at q
        exact q
      · have h2 : vs.length = 2 := by
          have hb' : (!true || !decide ((vs.length : Int) = 2)) = false := hb
          simp at hb'
          omega
        obtain ⟨a, b, rfl⟩ : ∃ a b, xs = [a, b] := by
          rw [hl] at h2
          match xs, h2 with
          | [a, b], _ => exact ⟨a, b, rfl⟩
        cases hx with
        | cons ha hx =>
          cases hx with
          | cons hb' hx =>
            cases hx
            rename_i va vb
            have ha1 := ha.mono e1
            have hb1 := hb'.mono e1
            have hp1 := ex_t e1 hp
            have ix0 : Ev (tOp (rIxT K) (tVar 0) (tC (.int 0))) [some (V.ref p)] H1 va := ev_ixT (ev_var rfl) ev_c hp1 rfl
            have ix1 : Ev (tOp (rIxT K) (tVar 0) (tC (.int 1))) [some (V.ref p)] H1 vb := ev_ixT (ev_var rfl) ev_c hp1 rfl
            refine s_ret (v := .bl ((wordD a).isSome && (decide (0 < ((wordD a).getD []).length) && bitD b))) (ev_andV (ev_is_word (ea_cons ix0 ea_nil) ha1) fun hs => ev_andV ?_ fun _ => ev_is_bit (ea_cons ix1 ea_nil) hb1) fun H2 e2 => ?_
            · obtain ⟨w, hw⟩ := Option.isSome_iff_exists.mp hs
              have e := wordD_some hw
              subst e
              obtain ⟨rfl, hwl⟩ := str_small ha1
              refine ev_is (ev_gtI (ev_lenT ix0 (by omega)) ev_c) ?_
              rw [hw]
              show V.bl (decide ((0 : Int) < (w.length : Int))) = .bl (decide (0 < w.length))
              congr 1
              apply decide_eq_decide.mpr
              omega
            · have q := k H2 (e1.trans e2)
              have z : (stuffOf (.tup [a, b])).isSome = ((wordD a).isSome && (decide (0 < ((wordD a).getD []).length) && bitD b)) := by
                exact stuffW_is _ _
              rw [z] at q
              exact q
  · have hf : isTupD d = false := by simpa using ht
    refine q_when (et_or (b := true) (et_not (et_B (ev_is (ev_isi (ev_var rfl) (tyX_of T hd) (kit_tup T d)) (by rw [hf])))) fun hc => by cases hc) (fun hb H1 e1 => ?_) (fun hb H1 e1 => ?_)
    · refine s_ret (v := .bl false) ev_c fun H2 e2 => ?_
      have z : stuffOf d = none := by
        cases d <;> first | rfl | cases hf
      have q := k H2 (e1.trans e2)
      rw [z] at q
      exact q
    · cases hb
theorem len_is_stuff : ∀ vs H Q E, sp_is_stuff K A vs H Q E → vs.length = 1 := by
  rintro vs H Q E ⟨v, d, rfl, _⟩
  rfl
theorem ev_is_stuff {E : XK} (h : EvA tr σ H [v]) (hd : DtAt K A H v d) : Ev (tCall (sp_is_stuff K A) [] E tr) σ H (.bl (stuffOf d).isSome) :=
  ev_call h fun H1 e Q q E => ⟨v, d, rfl, hd.mono e, q⟩
/-! ### are_stuffs -/
def stuffsL : List Dt → Option St'
  | [] => some []
  | d :: r => match stuffOf d, stuffsL r with
    | some s, some st => some (s :: st)
    | _, _ => none
def stuffsOf : Dt → Option St'
  | .tup xs => stuffsL xs
  | .lst xs => stuffsL xs
  | _ => none
theorem stuffsL_is : ∀ xs : List Dt, (stuffsL xs).isSome = xs.all fun d => (stuffOf d).isSome
  | [] => rfl
  | d :: r => by
    rw [List.all_cons, ← stuffsL_is r]
    have e : stuffsL (d :: r) = (match stuffOf d, stuffsL r with | some s, some st => some (s :: st) | _, _ => none) := rfl
    rw [e]
    cases stuffOf d with
    | none => rfl
    | some s => cases stuffsL r <;> rfl
theorem stuffsL_pair : ∀ {xs : List Dt} {st : St'}, stuffsL xs = some st → Paired (fun d s => stuffOf d = some s) xs st
  | [], st, h => by cases h; exact .nil
  | d :: r, st, h => by
    unfold stuffsL at h
    split at h
    · rename_i s st' h1 h2
      cases h
      exact .cons h1 (stuffsL_pair h2)
    · cases h
theorem pair_of {s : W × Bool} (hd : DtAt K A H v d) (h : stuffOf d = some s) : PairAt K H v s := by
  obtain ⟨rfl, _⟩ := stuffOf_some h
  cases hd with
  | tup hp hx _ =>
    cases hx with
    | cons ha hx =>
      cases hx with
      | cons hb hx =>
        cases hx
        cases ha
        cases hb
        exact ⟨_, rfl, hp⟩
theorem stl_of : ∀ {vs : List V} {xs : List Dt} {st : St'}, DtsAt K A H vs xs → Paired (fun d s => stuffOf d = some s) xs st → StL K H vs st
  | [], _, _, .nil, h => by cases h; exact .nil
  | _ :: _, _, _, .cons h1 h2, h => by
    cases h with
    | cons k1 k2 => exact .cons (pair_of h1 k1) (stl_of h2 k2)
theorem stl_get {xs : List V} {st : St'} (h : StL K H xs st) {i : Nat} {x : V} (hx : xs[i]? = some x) : ∃ s, st[i]? = some s ∧ PairAt K H x s := by
  obtain ⟨s, h1, h2⟩ := paired_get h hx
  exact ⟨s, h1, h2⟩
theorem stl_len {xs : List V} {st : St'} (h : StL K H xs st) : xs.length = st.length := Paired.length h
theorem paired_app {α β : Type} {R : α → β → Prop} : ∀ {a : List α} {b : List β} {c : List α} {e : List β}, Paired R a b → Paired R c e → Paired R (a ++ c) (b ++ e)
  | _, _, _, _, .nil, h => h
  | _, _, _, _, .cons h1 h2, h => .cons h1 (paired_app h2 h)
theorem paired_take {α β : Type} {R : α → β → Prop} : ∀ {a : List α} {b : List β} (n : Nat), Paired R a b → Paired R (a.take n) (b.take n)
  | _, _, 0, _ => by rw [List.take_zero, List.take_zero]; exact .nil
  | _, _, _ + 1, .nil => .nil
  | _, _, n + 1, .cons h1 h2 => .cons h1 (paired_take n h2)
theorem paired_drop {α β : Type} {R : α → β → Prop} : ∀ {a : List α} {b : List β} (n : Nat), Paired R a b → Paired R (a.drop n) (b.drop n)
  | _, _, 0, h => h
  | _, _, _ + 1, .nil => .nil
  | _, _, n + 1, .cons h1 h2 => paired_drop n h2
/-- whether the pattern at i ends with another one -/
def clash (st : St') (i : Nat) : Bool := match st[i]? with
  | some s => (st.take i ++ st.drop (i + 1)).any fun t => endsW s.1 t.1
  | none => false
def parted (st : St') : Bool := (List.range st.length).all fun i => !clash st i
def areStuffs (d : Dt) : Bool := match stuffsOf d with
  | some st => parted st
  | none => false
theorem parted_no {st : St'} {i : Nat} (h : clash st i = true) : parted st = false := by
  unfold parted
  have hi : i < st.length := by
    unfold clash at h
    split at h
    · rename_i s hs
      exact (List.getElem?_eq_some_iff.mp hs).1
    · cases h
  cases e : (List.range st.length).all fun i => !clash st i with
  | false => rfl
  | true =>
    have := (List.all_eq_true.mp e) i (List.mem_range.mpr hi)
    rw [h] at this
    cases this
theorem parted_yes {st : St'} (h : ∀ i, i < st.length → clash st i = false) : parted st = true := by
  unfold parted
  rw [List.all_eq_true]
  intro i hi
  rw [h i (List.mem_range.mp hi)]
  rfl
def sp_are_stuffs (K : PySem.W.Frag) (A : Ad) : Sp := fun vs H Q _ => ∃ (v : V) (d : Dt), vs = [v] ∧ DtAt K A H v d ∧ RetV (.bl (areStuffs d)) H Q
def t_are_stuffs (K : PySem.W.Frag) (A : Ad) : TS :=
  (tSeq (tIfS (tOr (tNot (tB (tCall (sp_is_sequence K A) [] E0 (tCons (tVar 0) tNil)))) (tNot (tB (tCB (rAll K) (tCons (tLc (iSeq K (tVar 0)) (gName 6) tYes (tCall (sp_is_stuff K A) [] E0 (tCons (tVar 6) tNil)) [6]) tNil))))) (tRet (tC (.bl false))) tNext)
    (tSeq (tFor (iEnumQ K (tCons (tVar 0) tNil)) (gTup K 2 (gCons (gName 1) (gCons (gName 2) gNil))) (tSeq (tAsg (tLst (tStar K (tSl (rSlQ K) (tVar 0) tNoPart (tPart (tVar 1))) (tStar K (tSl (rSlQ K) (tVar 0) (tPart (tOp rAddI (tVar 1) (tC (.int 1)))) tNoPart) tNil))) (gName 3))
    (tIfS (tB (tCB (rAny K) (tCons (tLc (iList K (tVar 3)) (gTup K 2 (gCons (gName 4) (gCons (gName 5) gNil))) tYes (tM1 rEnds (tOp (rIxT K) (tVar 2) (tC (.int 0))) (tVar 4)) [4, 5]) tNil))) (tRet (tC (.bl false))) tNext)))
    (tRet (tC (.bl true)))))
theorem seq_of (h : DtAt K A H v d) (hs : (isLstD d || isTupD d) = true) : ∃ p vs xs, v = .ref p ∧ SqQ K H p vs ∧ DtsAt K A H vs xs ∧ xs.length ≤ 1000 ∧ stuffsOf d = stuffsL xs := by
  cases h with
  | tup h1 h2 h3 => exact ⟨_, _, _, rfl, .inr h1, h2, h3, rfl⟩
  | lst h1 h2 h3 => exact ⟨_, _, _, rfl, .inl h1, h2, h3, rfl⟩
  | _ => cases hs
theorem pure_are_stuffs (T : Tx K A) (vs : List V) (H : Hp) (Q : VK) (E : XK) (h : sp_are_stuffs K A vs H Q E) : t_are_stuffs K A { nx := fun _ H' => Q .non H', rt := Q } (start ["value", "at", "stuff", "rest", "pattern", "bit", "one"] vs) H := by
  obtain ⟨v, d, rfl, hd, k⟩ := h
  cases hq : (isLstD d || isTupD d) with
  | false =>
    refine q_when (et_or (b := true) (et_is (et_not (et_B (ev_is_sequence (ea_cons (ev_var rfl) ea_nil) hd))) (by rw [hq])) fun hc => by cases hc) (fun hb H1 e1 => ?_) (fun hb H1 e1 => ?_)
    · refine s_ret (v := .bl false) ev_c fun H2 e2 => ?_
      have z : areStuffs d = false := by
        unfold areStuffs
        cases d <;> first | rfl | cases hq
      have q := k H2 (e1.trans e2)
      rw [z] at q
      exact q
    · cases hb
  | true =>
    obtain ⟨p, vs, xs, rfl, hp, hx, hn, hst⟩ := seq_of hd hq
    have hlen := hx.length
    refine q_when (et_or (b := !(stuffsL xs).isSome) (et_is (et_not (et_B (ev_is_sequence (ea_cons (ev_var rfl) ea_nil) hd))) (by rw [hq])) fun _ => et_is (et_not (et_B (ev_all (bs := xs.map fun d => (stuffOf d).isSome) ?_))) (by rw [stuffsL_is, List.all_map]; rfl)) (fun hb H1 e1 => ?_) (fun hb H1 e1 => ?_)
    · obtain ⟨G, hG, hs⟩ := src_seq (K := K) (σ := [some (V.ref p), none, none, none, none, none, none]) (te := tVar 0) (ev_var rfl) hp
      rw [hlen] at hs
      refine el_is (el_lcM xs (fun d => .bl (stuffOf d).isSome) hs hG (by omega) fun i d x H1 H2 hi e y => ?_) (by rw [List.map_map]; rfl)
      obtain ⟨rfl, hx'⟩ := y
      obtain ⟨d', hd', hda⟩ := hx.get hx'
      rw [hi] at hd'
      cases hd'
      exact ⟨Ex.refl _, _, fun Q q => g_name q, rfl, ev_is_stuff (ea_cons (ev_var rfl) ea_nil) (hda.mono e)⟩
    · refine s_ret (v := .bl false) ev_c fun H2 e2 => ?_
      have z : areStuffs d = false := by
        unfold areStuffs
        rw [hst]
        cases q : stuffsL xs with
        | none => rfl
        | some st => rw [q] at hb; cases hb
      have q := k H2 (e1.trans e2)
      rw [z] at q
      exact q
    · obtain ⟨st, hst'⟩ : ∃ st, stuffsL xs = some st := by
        cases q : stuffsL xs with
        | none => rw [q] at hb; cases hb
        | some st => exact ⟨st, rfl⟩
      have har : areStuffs d = parted st := by
        unfold areStuffs
        rw [hst, hst']
      have hpair := stuffsL_pair hst'
      have hS : StL K H vs st := stl_of hx hpair
      have hsl := stl_len hS
      obtain ⟨G, hG, hs⟩ := src_enumQ (K := K) (H := H1) (σ := [some (V.ref p), none, none, none, none, none, none]) (tr := tCons (tVar 0) tNil) (ea_cons (ev_var rfl) ea_nil) (hp.mono e1)
      refine q_for hs (fun i σ' H' => Ex H1 H' ∧ (∃ a b c, σ' = [some (.ref p), a, b, c, none, none, none]) ∧ ∀ j, j < i → clash st j = false) (fun H2 e2 => ⟨e2, ⟨_, _, _, rfl⟩, fun j hj => by omega⟩) (fun i σ' H' _ w => hG H' w.1) ?_ ?_
      · rintro i x σ' Ha Hb hi ⟨e, ⟨a, b, c, rfl⟩, hno⟩ ⟨Tp, x1, x2, rfl, hT, rfl, h1, h2⟩
        cases h1
        obtain ⟨s, hs', q0, rfl, hq0⟩ := stl_get hS h2
        have eb : Ex Ha (upd Ha Tp (.tup [.int (i : Nat), .ref q0])) := Ex.new hT
        refine g_two (st_of upd_same) ?_
        have hi' : i < st.length := by omega
        have exb : Ex H (upd Ha Tp (.tup [.int (i : Nat), .ref q0])) := (e1.trans e).trans eb
        -- rest
        refine q_asgL (xs := vs.take i ++ (vs.drop (i + 1) ++ [])) (el_lst (ea_starQ ?_ (ea_starQ ?_ ea_nil)) (by simp only [List.length_append, List.length_take, List.length_drop, List.length_nil]; omega)) fun pr H3 hpr e3 h3 => ?_
        · have z := cutV_to (xs := vs) (n := i) (by omega)
          rw [← z]
          exact ev_slQ (ev_var rfl) (hp.mono exb) eo_none (eo_some (ev_var rfl))
        · have z := cutV_from (xs := vs) (n := i + 1) (by omega)
          rw [← z]
          exact ev_slQ (ev_var rfl) (hp.mono exb) (eo_some (ev_is (ev_addI (ev_var rfl) ev_c) rfl)) eo_none
        have ex3 : Ex H H3 := exb.trans e3
        have hrest : StL K H3 (vs.take i ++ (vs.drop (i + 1) ++ [])) (st.take i ++ st.drop (i + 1)) := by
          rw [List.append_nil]
          exact StL.mono ex3 (paired_app (paired_take i hS) (paired_drop (i + 1) hS))
        have hrl := stl_len hrest
        refine s_when (et_B (ev_any (bs := (st.take i ++ st.drop (i + 1)).map fun t => endsW s.1 t.1) ?_)) (fun hb2 H4 e4 => ?_) (fun hb2 H4 e4 => ?_)
        · refine el_is (el_lcM (st.take i ++ st.drop (i + 1)) (fun t => .bl (endsW s.1 t.1)) (by rw [← hrl]; exact src_list (ev_var rfl) (sq_of h3)) (fun H' e => ex_l e (sq_of h3)) (by simp only [List.length_append, List.length_take, List.length_drop]; omega) fun j t x H5 H6 hj e5 y => ?_) (by rw [List.map_map]; rfl)
          obtain ⟨rfl, hx'⟩ := y
          obtain ⟨t', ht', q1, rfl, hq1⟩ := stl_get (hrest.mono e5) hx'
          rw [hj] at ht'
          cases ht'
          exact ⟨Ex.refl _, _, fun Q q => g_two hq1 q, rfl, ev_ends (ev_ixT (ev_var rfl) ev_c (ex_t (ex3.trans e5) hq0) rfl) (ev_var rfl)⟩
        · have z : clash st i = true := by
            unfold clash
            rw [hs']
            rw [List.any_map] at hb2
            exact hb2
          refine s_ret (v := .bl false) ev_c fun H5 e5 => ?_
          have q := k H5 ((ex3.trans e4).trans e5)
          rw [har, parted_no z] at q
          exact q
        · have z : clash st i = false := by
            unfold clash
            rw [hs']
            rw [List.any_map] at hb2
            exact hb2
          refine ⟨((e.trans eb).trans e3).trans e4, ⟨_, _, _, rfl⟩, fun j hj => ?_⟩
          by_cases hji : j = i
          · rw [hji]; exact z
          · exact hno j (by omega)
      · rintro σ' H' ⟨e, ⟨a, b, c, rfl⟩, hno⟩
        refine s_ret (v := .bl true) ev_c fun H5 e5 => ?_
        have q := k H5 ((e1.trans e).trans e5)
        rw [har, parted_yes fun i hi => hno i (by omega)] at q
        exact q
theorem len_are_stuffs : ∀ vs H Q E, sp_are_stuffs K A vs H Q E → vs.length = 1 := by
  rintro vs H Q E ⟨v, d, rfl, _⟩
  rfl
theorem ev_are_stuffs {E : XK} (h : EvA tr σ H [v]) (hd : DtAt K A H v d) : Ev (tCall (sp_are_stuffs K A) [] E tr) σ H (.bl (areStuffs d)) :=
  ev_call h fun H1 e Q q E => ⟨v, d, rfl, hd.mono e, q⟩
end
end Fl

namespace Fl
open PySem L2 Evl TL StX
local macro_rules | `(tactic| walk_at "ev") => `(tactic| (first
  | (with_reducible exact ev_c)
  | ((with_reducible refine ev_var ?_); rfl)
  | ((with_reducible refine ev_addI ?_ ?_) <;> walk_at "ev")
  | ((with_reducible refine ev_subI ?_ ?_) <;> walk_at "ev")
  | ((with_reducible refine ev_max2 ?_ ?_) <;> walk_at "ev")
  | ((with_reducible refine ev_lenT ?_ ?_); (walk_at "ev"); (omega))))
local macro_rules | `(tactic| walk_at "eva") => `(tactic| (first
  | (with_reducible exact ea_nil)
  | ((with_reducible refine ea_cons ?_ ?_); (walk_at "ev"); (walk_at "eva"))))
section
variable {K : PySem.W.Frag} {A : Ad} {σ : L2.St} {H H' : Hp} {ta te : TE} {tr : TA} {vs : List V} {D : Ends}
/-! ### tail -/
def sp_tail (K : PySem.W.Frag) (A : Ad) : Sp := fun vs H Q _ => ∃ (l : W) (n : Nat), vs = [.str (S l), .int (n : Int)] ∧ l.length ≤ 100000 ∧ RetV (.str (S (tailW l n))) H Q
def t_tail (K : PySem.W.Frag) (A : Ad) : TS :=
  (tRet (tSl rSlS (tVar 0) (tPart (tCB rMax2 (tCons (tC (.int 0)) (tCons (tOp rSubI (tCB rLenT (tCons (tVar 0) tNil)) (tVar 1)) tNil)))) tNoPart))
theorem cut_tail (l : W) (n : Nat) : cutW l (some (if (l.length : Int) - (n : Int) > 0 then (l.length : Int) - (n : Int) else 0)) none = tailW l n := by
  have e : (if (l.length : Int) - (n : Int) > 0 then (l.length : Int) - (n : Int) else 0) = ((l.length - n : Nat) : Int) := by
    split <;> omega
  rw [e, cutW_from _ _ (by omega)]
  rfl
theorem pure_tail (vs : List V) (H : Hp) (Q : VK) (E : XK) (h : sp_tail K A vs H Q E) : t_tail K A { nx := fun _ H' => Q .non H', rt := Q } (start ["line", "size"] vs) H := by
  obtain ⟨l, n, rfl, hl, k⟩ := h
  refine s_ret (v := .str (S (tailW l n))) ?_ k
  rw [← cut_tail]
  refine ev_slT ?_ (eo_some ?_) eo_none hl
  · walk_at "ev"
  · walk_at "ev"
theorem len_tail : ∀ vs H Q E, sp_tail K A vs H Q E → vs.length = 2 := by
  rintro vs H Q E ⟨l, n, rfl, _⟩
  rfl
theorem ev_tail {l : W} {n : Nat} {E : XK} (h : EvA tr σ H [.str (S l), .int (n : Int)]) (hl : l.length ≤ 100000) : Ev (tCall (sp_tail K A) [] E tr) σ H (.str (S (tailW l n))) :=
  ev_call h fun H1 e Q q E => ⟨l, n, rfl, hl, q⟩

/-! ### Rule.longest -/
def sp_Rule_longest (K : PySem.W.Frag) (A : Ad) : Sp := fun vs H Q _ => ∃ (a : Addr) (f : W) (st : St'), vs = [.ref a] ∧ RuleAt K A H a f st ∧ (∀ s ∈ st, s.1.length ≤ 1000) ∧ st.length ≤ 1000 ∧ RetV (.int (lonW st : Nat)) H Q
def t_Rule_longest (K : PySem.W.Frag) (A : Ad) : TS :=
  (tRet (tCB (rMax K) (tCons (tLst (tCons (tC (.int 0)) (tStar K (tLc (iTup K (tFld K (tVar 0) "stuffs")) (gTup K 2 (gCons (gName 1) (gCons (gName 2) gNil))) tYes (tCB rLenT (tCons (tVar 1) tNil)) [1, 2]) tNil))) tNil)))
theorem lon_ge : ∀ (st : St') (m : Nat), m ≤ st.foldl (fun m s => max m s.1.length) m ∧ ∀ s ∈ st, s.1.length ≤ st.foldl (fun m s => max m s.1.length) m
  | [], m => ⟨Nat.le_refl _, fun _ h => by cases h⟩
  | a :: r, m => by
    obtain ⟨h1, h2⟩ := lon_ge r (max m a.1.length)
    refine ⟨Nat.le_trans (Nat.le_max_left _ _) h1, fun s hs => ?_⟩
    rcases List.mem_cons.mp hs with e | hs
    · subst e
      exact Nat.le_trans (Nat.le_max_right _ _) h1
    · exact h2 s hs
theorem lonW_ge {st : St'} {s : W × Bool} (h : s ∈ st) : s.1.length ≤ lonW st := (lon_ge st 0).2 s h
theorem lon_le : ∀ (st : St') (m k : Nat), m ≤ k → (∀ s ∈ st, s.1.length ≤ k) → st.foldl (fun m s => max m s.1.length) m ≤ k
  | [], m, k, h, _ => h
  | a :: r, m, k, h, h2 => lon_le r _ k (by
      have := h2 a (List.mem_cons_self ..)
      exact Nat.max_le.mpr ⟨h, this⟩) fun s hs => h2 s (List.mem_cons_of_mem _ hs)
theorem lonW_le {st : St'} {k : Nat} (h : ∀ s ∈ st, s.1.length ≤ k) : lonW st ≤ k := lon_le st 0 k (Nat.zero_le _) h

theorem lon_mem : ∀ (st : St') (m : Nat), st.foldl (fun m s => max m s.1.length) m = m ∨ ∃ s ∈ st, s.1.length = st.foldl (fun m s => max m s.1.length) m
  | [], m => .inl rfl
  | a :: r, m => by
    rcases lon_mem r (max m a.1.length) with h | ⟨s, h1, h2⟩
    · rcases Nat.le_total m a.1.length with h3 | h3
      · refine .inr ⟨a, List.mem_cons_self .., ?_⟩
        show _ = r.foldl _ (max m a.1.length)
        rw [h, Nat.max_eq_right h3]
      · refine .inl ?_
        show r.foldl _ (max m a.1.length) = m
        rw [h, Nat.max_eq_left h3]
    · exact .inr ⟨s, List.mem_cons_of_mem _ h1, h2⟩
theorem pure_Rule_longest (T : Tx K A) (vs : List V) (H : Hp) (Q : VK) (E : XK) (h : sp_Rule_longest K A vs H Q E) : t_Rule_longest K A { nx := fun _ H' => Q .non H', rt := Q } (start ["self", "pattern", "bit"] vs) H := by
  obtain ⟨a, f, st, rfl, R, hs, hl, k⟩ := h
  obtain ⟨dx, t, ps, h1, h2, h3⟩ := id R
  have hn := stl_len h3
  refine s_ret ?_ k
  refine ev_maxL (ns := (0 : Int) :: st.map fun s => (s.1.length : Int)) (m := (lonW st : Nat)) ?_ (by show 0 < _; simp) ?_ ?_
  · refine el_is (el_lst (ea_cons ev_c (ea_star (el_lcM (G := fun H => SqT K H t ps) (Y := YAt ps) st (fun s => V.int (s.1.length : Int)) ?_ (fun H' e => ex_t e h2) (by omega) fun i s x Ha Hb hi e y => ?_) ea_nil)) (by simp; omega)) (by simp)
    · rw [← hn]
      exact src_tup (ev_fld (ev_var rfl) h1 T.cl_Rule T.na_stuffs (flds_stuffs f t)) h2
    · obtain ⟨rfl, hx⟩ := y
      obtain ⟨s', hs', p, rfl, hp⟩ := stl_get (h3.mono e) hx
      rw [hi] at hs'
      cases hs'
      exact ⟨Ex.refl _, _, fun Q q => g_two hp q, rfl, ev_lenT (ev_var rfl) (by have := hs s (List.mem_of_getElem? hi); omega)⟩
  · rcases lon_mem st 0 with e | ⟨s, h1, h2⟩
    · have e' : lonW st = 0 := e
      rw [e']
      exact List.mem_cons_self ..
    · have e' : s.1.length = lonW st := h2
      rw [← e']
      exact List.mem_cons_of_mem _ (List.mem_map.mpr ⟨s, h1, rfl⟩)
  · intro y hy
    rcases List.mem_cons.mp hy with e | hy
    · omega
    · obtain ⟨s, h1, rfl⟩ := List.mem_map.mp hy
      have := lonW_ge h1
      omega
theorem len_Rule_longest : ∀ vs H Q E, sp_Rule_longest K A vs H Q E → vs.length = 1 := by
  rintro vs H Q E ⟨a, f, st, rfl, _⟩
  rfl
/-- patterns and stuffs are few and short -/
def Few (st : St') : Prop := (∀ s ∈ st, s.1.length ≤ 1000) ∧ st.length ≤ 1000
theorem ev_longest {a : Addr} {f : W} {st : St'} {E : XK} (h : Ev te σ H (.ref a)) (R : RuleAt K A H a f st) (hf : Few st) : Ev (tProp A.C_Rule (sp_Rule_longest K A) [] E te) σ H (.int (lonW st : Nat)) := by
  obtain ⟨dx, t, ps, h1, _⟩ := id R.ob
  exact ev_prop h h1 fun H1 e Q q E => ⟨a, f, st, rfl, R.mono e, hf.1, hf.2, q⟩

/-! ### Rule.put -/
def sp_Rule_put (K : PySem.W.Frag) (A : Ad) : Sp := fun vs H Q _ => ∃ (a : Addr) (f : W) (st : St') (l : W), vs = [.ref a, .str (S l)] ∧ RuleAt K A H a f st ∧ RetV (optV (putW st l)) H Q
def t_Rule_put (K : PySem.W.Frag) (A : Ad) : TS :=
  (tSeq (tFor (iTup K (tFld K (tVar 0) "stuffs")) (gTup K 2 (gCons (gName 2) (gCons (gName 3) gNil))) (tIfS (tB (tM1 rEnds (tVar 1) (tVar 2))) (tRet (tVar 3)) tNext))
    (tRet (tC .non)))
theorem pure_Rule_put (T : Tx K A) (vs : List V) (H : Hp) (Q : VK) (E : XK) (h : sp_Rule_put K A vs H Q E) : t_Rule_put K A { nx := fun _ H' => Q .non H', rt := Q } (start ["self", "line", "pattern", "bit"] vs) H := by
  obtain ⟨a, f, st, l, rfl, R, k⟩ := h
  obtain ⟨dx, t, ps, h1, h2, h3⟩ := id R
  have hn := stl_len h3
  refine q_for (n := ps.length) (G := fun H => SqT K H t ps) (Y := YAt ps) (src_tup (ev_fld (ev_var rfl) h1 T.cl_Rule T.na_stuffs (flds_stuffs f t)) h2)
    (fun i σ' H' => Ex H H' ∧ (∃ u v, σ' = [some (.ref a), some (.str (S l)), u, v]) ∧ ∀ j s, j < i → st[j]? = some s → endsW l s.1 = false)
    (fun H1 e => ⟨e, ⟨none, none, rfl⟩, fun j s hj => by omega⟩) (fun i σ' H' _ p => ex_t p.1 h2) ?_ ?_
  · rintro i x σ' Ha Hb hi ⟨e, ⟨u, v, rfl⟩, hno⟩ ⟨rfl, hx⟩
    obtain ⟨s, hs, p, rfl, hp⟩ := stl_get (h3.mono e) hx
    refine g_two hp ?_
    refine s_when (et_B (ev_ends (ev_var rfl) (ev_var rfl))) (fun hb H1 e1 => ?_) (fun hb H1 e1 => ?_)
    · refine s_ret (v := .str (S [s.2])) (ev_var rfl) fun H2 e2 => ?_
      have z : putW st l = some s.2 := by
        unfold putW
        have hf : st.find? (fun s => endsW l s.1) = some s := by
          rw [List.find?_eq_some_iff_getElem]
          refine ⟨hb, i, (List.getElem?_eq_some_iff.mp hs).1, (List.getElem?_eq_some_iff.mp hs).2, fun j hj => ?_⟩
          have hjl : j < st.length := by have := (List.getElem?_eq_some_iff.mp hs).1; omega
          have := hno j st[j] hj (by simp [hjl])
          simp [this]
        rw [hf]
        rfl
      have q := k H2 ((e.trans e1).trans e2)
      rw [z] at q
      exact q
    · refine ⟨e.trans e1, ⟨_, _, rfl⟩, fun j s' hj hs' => ?_⟩
      by_cases hji : j = i
      · subst hji
        rw [hs] at hs'
        cases hs'
        exact hb
      · exact hno j s' (by omega) hs'
  · rintro σ' H' ⟨e, ⟨u, v, rfl⟩, hno⟩
    refine s_ret (v := .non) ev_c fun H2 e2 => ?_
    have z : putW st l = none := by
      unfold putW
      have hf : st.find? (fun s => endsW l s.1) = none := by
        rw [List.find?_eq_none]
        intro s hs
        obtain ⟨j, hj⟩ := List.mem_iff_getElem?.mp hs
        have hjl := (List.getElem?_eq_some_iff.mp hj).1
        rw [hno j s (by omega) hj]
        exact Bool.false_ne_true
      rw [hf]
      rfl
    have q := k H2 (e.trans e2)
    rw [z] at q
    exact q
theorem len_Rule_put : ∀ vs H Q E, sp_Rule_put K A vs H Q E → vs.length = 2 := by
  rintro vs H Q E ⟨a, f, st, l, rfl, _⟩
  rfl
theorem ev_put {a : Addr} {f : W} {st : St'} {l : W} {E : XK} (h : Ev te σ H (.ref a)) (R : RuleAt K A H a f st) (hl : EvA tr σ H [.str (S l)]) : Ev (tMeth A.C_Rule "put" (sp_Rule_put K A) [] E te tr) σ H (optV (putW st l)) := by
  obtain ⟨dx, t, ps, h1, _⟩ := id R.ob
  exact ev_meth h h1 (flds_no _ _ (by decide +kernel) (by decide +kernel)) hl fun H1 e Q q E => ⟨a, f, st, l, rfl, R.mono e, q⟩

/-! ### Rule.put_in -/
def putInF (st : St') : Nat → List W → W → W → Option W
  | 0, _, _, found => some found
  | m + 1, known, line, found => match putW st (line ++ found) with
    | none => some found
    | some b => if tailW (line ++ found) (lonW st) ∈ known then none else putInF st m (known ++ [tailW (line ++ found) (lonW st)]) line (found ++ [b])
def putIn (st : St') (line : W) : Option W := putInF st (2 ^ (lonW st + 1)) [] line []
def optS : Option W → V
  | none => .non
  | some w => .str (S w)
/-- what a rule must be: few stuffs, short patterns -/
structure Small (st : St') : Prop where
  few : st.length ≤ 1000
  lon : lonW st ≤ 10
theorem Small.toFew {st : St'} (h : Small st) : Few st := ⟨fun s hs => by have := lonW_ge hs; have := h.lon; omega, h.few⟩
theorem Small.pow {st : St'} (h : Small st) : 2 ^ (lonW st + 1) ≤ 2048 := Nat.pow_le_pow_right (n := 2) (by decide) (show lonW st + 1 ≤ 11 by have := h.lon; omega)
def sp_Rule_put_in (K : PySem.W.Frag) (A : Ad) : Sp := fun vs H Q _ => ∃ (a : Addr) (f : W) (st : St') (l : W), vs = [.ref a, .str (S l)] ∧ RuleAt K A H a f st ∧ Small st ∧ l.length ≤ 50000 ∧ RetV (optS (putIn st l)) H Q
def t_Rule_put_in (K : PySem.W.Frag) (A : Ad) : TS :=
  (tSeq (tPar 2 3 (tCons (tC (.str "")) (tCons tDNewK tNil)))
    (tSeq (tAsg (tMeth A.C_Rule "put" (sp_Rule_put K A) [] E0 (tVar 0) (tCons (tVar 1) tNil)) (gName 4))
    (tSeq (tWhile (tTest (tOp rNotN (tVar 4) (tC .non))) (tSeq (tAsg (tCall (sp_tail K A) [] E0 (tCons (tOp rAddT (tVar 1) (tVar 2)) (tCons (tProp A.C_Rule (sp_Rule_longest K A) [] E0 (tVar 0)) tNil))) (gName 5))
    (tSeq (tIfS (tB (tDIn (tVar 5) (tVar 3))) (tRet (tC .non)) tNext)
    (tSeq (sDPut (tVar 3) (tVar 5) (tC (.bl true)))
    (tSeq (tAug 2 (tVar 4) ipT)
    (tAsg (tMeth A.C_Rule "put" (sp_Rule_put K A) [] E0 (tVar 0) (tCons (tOp rAddT (tVar 1) (tVar 2)) tNil)) (gName 4)))))))
    (tRet (tVar 2)))))
theorem optV_none {o : Option Bool} : decide (optV o = .non) = o.isNone := by
  cases o <;> rfl
theorem nodup_snoc {α : Type} {l : List α} {x : α} (h : l.Nodup) (hx : x ∉ l) : (l ++ [x]).Nodup := by
  rw [List.nodup_append]
  exact ⟨h, List.nodup_cons.mpr ⟨List.not_mem_nil, List.nodup_nil⟩, fun a ha b hb => by
    rw [List.mem_singleton.mp hb]
    exact fun e => hx (e ▸ ha)⟩
theorem pure_Rule_put_in (T : Tx K A) (vs : List V) (H : Hp) (Q : VK) (E : XK) (h : sp_Rule_put_in K A vs H Q E) : t_Rule_put_in K A { nx := fun _ H' => Q .non H', rt := Q } (start ["self", "line", "found", "known", "bit", "standing"] vs) H := by
  obtain ⟨a, f, st, l, rfl, R, hS, hl, k⟩ := h
  have hpow := hS.pow
  refine q_parVD (v := .str (S [])) (ev_lit S_nil.symm) ed_new fun dk H1 hdk e1 h1 => ?_
  refine q_asg (v := optV (putW st l)) (ev_put (ev_var rfl) (R.mono e1) (ea_cons (ev_var rfl) ea_nil)) fun H2 e2 => ?_
  refine q_while (fun m σ' H' => ∃ known found s5, Ex H H' ∧ H' dk = some (.dK (dkT known)) ∧ σ' = [some (.ref a), some (.str (S l)), some (.str (S found)), some (.ref dk), some (optV (putW st (l ++ found))), s5] ∧
      known.Nodup ∧ (∀ w ∈ known, w.length ≤ lonW st) ∧ m + known.length = 2 ^ (lonW st + 1) ∧ found.length = known.length ∧ putInF st m known l found = putIn st l) (2 ^ (lonW st + 1))
    ⟨[], [], none, e1.trans e2, e2 _ _ h1, by rw [List.append_nil]; rfl, List.nodup_nil, (fun w hw => absurd hw List.not_mem_nil), rfl, rfl, rfl⟩ ?_
  rintro m σ' H' ⟨known, found, s5, e, hd, rfl, hn, hk, hm, hf, hp⟩
  have hlt := nodup_words hn hk
  obtain ⟨m', rfl⟩ : ∃ m', m = m' + 1 := ⟨m - 1, by omega⟩
  refine ⟨!(putW st (l ++ found)).isNone, et_is (et_test (ev_notN (ev_var rfl))) (by rw [optV_none]), fun hb H3 e3 => ?_, fun hb H3 e3 => ?_⟩
  · obtain ⟨b, hb'⟩ : ∃ b, putW st (l ++ found) = some b := by
      cases q : putW st (l ++ found) with
      | none => rw [q] at hb; cases hb
      | some b => exact ⟨b, rfl⟩
    refine ⟨_, fun σ2 H2 w => ⟨m', by omega, w⟩, ?_⟩
    have hp2 : (if tailW (l ++ found) (lonW st) ∈ known then none else putInF st m' (known ++ [tailW (l ++ found) (lonW st)]) l (found ++ [b])) = putIn st l := by
      rw [← hp]
      show _ = (match putW st (l ++ found) with | none => _ | some b => _)
      rw [hb']
    refine q_asg (v := .str (S (tailW (l ++ found) (lonW st)))) (ev_tail (ea_cons (ev_addT (ev_var rfl) (ev_var rfl) (by omega)) (ea_cons (ev_longest (ev_var rfl) (R.mono (e.trans e3)) hS.toFew) ea_nil)) (by rw [List.length_append]; omega)) fun H4 e4 => ?_
    have hd4 := e4 _ _ (e3 _ _ hd)
    refine q_when (et_B (ev_dIn (ev_var rfl) (ev_var rfl) hd4)) (fun hin H5 e5 => ?_) (fun hin H5 e5 => ?_)
    · rw [if_pos (of_decide_eq_true hin)] at hp2
      refine s_ret (v := .non) ev_c fun H6 e6 => ?_
      have q := k H6 ((((e.trans e3).trans e4).trans e5).trans e6)
      rw [← hp2] at q
      exact q
    · have hni := of_decide_eq_false hin
      rw [if_neg hni] at hp2
      refine q_dput ev_c (ev_var rfl) (ev_var rfl) (e5 _ _ hd4) hni (by omega) fun H6 e6 => ?_
      have eH : Ex H (upd H6 dk (.dK (dkT (known ++ [tailW (l ++ found) (lonW st)])))) := Ex.mut ((((e.trans e3).trans e4).trans e5).trans e6) hdk
      refine q_augT (a := found) (b := [b]) rfl (ev_is (ev_var rfl) (by rw [hb']; rfl)) (by rw [List.length_singleton]; omega) fun H7 e7 => ?_
      refine s_asg (v := optV (putW st (l ++ (found ++ [b])))) (ev_put (ev_var rfl) (R.mono (eH.trans e7)) (ea_cons (ev_addT (ev_var rfl) (ev_var rfl) (by rw [List.length_append, List.length_singleton]; omega)) ea_nil)) fun H8 e8 => ?_
      refine ⟨known ++ [tailW (l ++ found) (lonW st)], found ++ [b], _, (eH.trans e7).trans e8, e8 _ _ (e7 _ _ upd_same), rfl, nodup_snoc hn hni, fun w hw => ?_, ?_, ?_, hp2⟩
      · rcases List.mem_append.mp hw with hw | hw
        · exact hk w hw
        · rw [List.mem_singleton.mp hw, tailW_len]
          omega
      · rw [List.length_append, List.length_singleton]
        omega
      · rw [List.length_append, List.length_append, hf]
        rfl
  · have hb' : putW st (l ++ found) = none := by
      cases q : putW st (l ++ found) with
      | none => rfl
      | some b => rw [q] at hb; cases hb
    have hp2 : some found = putIn st l := by
      rw [← hp]
      show _ = (match putW st (l ++ found) with | none => _ | some b => _)
      rw [hb']
    refine s_ret (v := .str (S found)) (ev_var rfl) fun H4 e4 => ?_
    have q := k H4 ((e.trans e3).trans e4)
    rw [← hp2] at q
    exact q
theorem len_Rule_put_in : ∀ vs H Q E, sp_Rule_put_in K A vs H Q E → vs.length = 2 := by
  rintro vs H Q E ⟨a, f, st, l, rfl, _⟩
  rfl
theorem ev_put_in {a : Addr} {f : W} {st : St'} {l : W} {E : XK} (h : Ev te σ H (.ref a)) (R : RuleAt K A H a f st) (hS : Small st) (hz : l.length ≤ 50000) (hl : EvA tr σ H [.str (S l)]) : Ev (tMeth A.C_Rule "put_in" (sp_Rule_put_in K A) [] E te tr) σ H (optS (putIn st l)) := by
  obtain ⟨dx, t, ps, h1, _⟩ := id R.ob
  exact ev_meth h h1 (flds_no _ _ (by decide +kernel) (by decide +kernel)) hl fun H1 e Q q E => ⟨a, f, st, l, rfl, R.mono e, hS, hz, q⟩

/-! ### Rule.is_endless -/
/-- one bit more behind a standing: the standings known then, or none where the bits that are put in never end -/
def endStep (st : St') (wl : List W) (here : W) (b : Bool) : Option (List W) := match putIn st (here ++ [b]) with
  | none => none
  | some more => some (if tailW (here ++ [b] ++ more) (lonW st) ∈ wl then wl else wl ++ [tailW (here ++ [b] ++ more) (lonW st)])
def endsF (st : St') : Nat → List W → Nat → Bool
  | 0, _, _ => false
  | m + 1, wl, i => match wl[i]? with
    | none => false
    | some here => match endStep st wl here false with
      | none => true
      | some w1 => match endStep st w1 here true with
        | none => true
        | some w2 => endsF st m w2 (i + 1)
def isEndless (st : St') : Bool := endsF st (2 ^ (lonW st + 1)) [[]] 0
def sp_Rule_is_endless (K : PySem.W.Frag) (A : Ad) : Sp := fun vs H Q _ => ∃ (a : Addr) (f : W) (st : St'), vs = [.ref a] ∧ RuleAt K A H a f st ∧ Small st ∧ RetV (.bl (isEndless st)) H Q
def t_Rule_is_endless (K : PySem.W.Frag) (A : Ad) : TS :=
  (tSeq (tPar3 1 2 3 (tCons (tLst (tCons (tC (.str "")) tNil)) (tCons (tDisp [((tC (.str "")), (tC (.bl true)))]) (tCons (tC (.int 0)) tNil))))
    (tSeq (tWhile (tTest (tOp rLtI (tVar 3) (tCB (rLenS K) (tCons (tVar 1) tNil)))) (tSeq (tFor (iStr (tC (.str "01"))) (gName 4) (tSeq (tAsg (tOp rAddT (tOp (rIxL K) (tVar 1) (tVar 3)) (tVar 4)) (gName 5))
    (tSeq (tAsg (tMeth A.C_Rule "put_in" (sp_Rule_put_in K A) [] E0 (tVar 0) (tCons (tVar 5) tNil)) (gName 6))
    (tSeq (tIfS (tTest (tOp rIsN (tVar 6) (tC .non))) (tRet (tC (.bl true))) tNext)
    (tSeq (tAsg (tCall (sp_tail K A) [] E0 (tCons (tOp rAddT (tVar 5) (tVar 6)) (tCons (tProp A.C_Rule (sp_Rule_longest K A) [] E0 (tVar 0)) tNil))) (gName 7))
    (tIfS (tB (tDNotIn (tVar 7) (tVar 2))) (tSeq (sDPut (tVar 2) (tVar 7) (tC (.bl true)))
    (tDrop (tBM K "list" rAppend (tVar 1) (tCons (tVar 7) tNil)))) tNext))))))
    (tAug 3 (tC (.int 1)) (ipI fun i j => i + j))))
    (tRet (tC (.bl false)))))
theorem putInF_len {st : St'} : ∀ {m : Nat} {known : List W} {line found more : W}, putInF st m known line found = some more → more.length ≤ found.length + m
  | 0, _, _, found, more, h => by
    cases h
    omega
  | m + 1, known, line, found, more, h => by
    unfold putInF at h
    split at h
    · cases h
      omega
    · split at h
      · cases h
      · have := putInF_len h
        rw [List.length_append, List.length_singleton] at this
        omega
theorem putIn_len {st : St'} {l more : W} (h : putIn st l = some more) : more.length ≤ 2 ^ (lonW st + 1) := by
  have := putInF_len h
  simpa using this
theorem optS_none {o : Option W} : decide (optS o = .non) = o.isNone := by
  cases o <;> rfl
/-- W, K known so far: the list and the dict hold the same words -/
structure EndAt (st : St') (H H' : Hp) (wa da : Addr) (wl : List W) : Prop where
  ex : Ex H H'
  wt : H' wa = some (.lst (wl.map fun w => V.str (S w)))
  dk : H' da = some (.dK (dkT wl))
  nd : wl.Nodup
  ln : ∀ w ∈ wl, w.length ≤ lonW st
theorem EndAt.mono {st : St'} {H H' H2 : Hp} {wa da : Addr} {wl : List W} (h : EndAt st H H' wa da wl) (e : Ex H' H2) : EndAt st H H2 wa da wl := ⟨h.ex.trans e, e _ _ h.wt, e _ _ h.dk, h.nd, h.ln⟩
theorem pure_Rule_is_endless (T : Tx K A) (vs : List V) (H : Hp) (Q : VK) (E : XK) (h : sp_Rule_is_endless K A vs H Q E) : t_Rule_is_endless K A { nx := fun _ H' => Q .non H', rt := Q } (start ["self", "waiting", "known", "at", "bit", "line", "more", "standing"] vs) H := by
  obtain ⟨a, f, st, rfl, R, hS, k⟩ := h
  have hpow := hS.pow
  have hL := hS.lon
  -- waiting, known, at
  refine q_par3LDV (xs := ([[]] : List W).map fun w => V.str (S w)) (el_lst (ea_cons (ev_lit S_nil.symm) ea_nil) (by decide)) (ed_disp1 S_nil.symm) ev_c fun wa da H2 hwa hdaH hne e2 hw1 hd2 => ?_
  refine q_while (fun m σ' H' => ∃ (wl : List W) (i : Nat) (s4 s5 s6 s7 : Option V), EndAt st H H' wa da wl ∧ σ' = [some (.ref a), some (.ref wa), some (.ref da), some (.int (i : Int)), s4, s5, s6, s7] ∧ i ≤ wl.length ∧ m + i = 2 ^ (lonW st + 1) ∧ endsF st m wl i = isEndless st) (2 ^ (lonW st + 1))
    ⟨[[]], 0, none, none, none, none, ⟨e2, hw1, hd2, by decide, fun w hw => by rw [List.mem_singleton.mp hw]; exact Nat.zero_le _⟩, rfl, Nat.zero_le _, rfl, rfl⟩ ?_
  rintro m σ' H' ⟨wl, i, s4, s5, s6, s7, D0, rfl, hi, hm, hp⟩
  have hlt := nodup_words D0.nd D0.ln
  refine ⟨decide ((i : Int) < (wl.length : Int)), et_test (ev_ltI (ev_var rfl) (ev_is (ev_lenSL (ev_var rfl) (sq_of D0.wt)) (by rw [List.length_map]))), fun hb H3 e3 => ?_, fun hb H3 e3 => ?_⟩
  · have hil : i < wl.length := by have := of_decide_eq_true hb; omega
    obtain ⟨m', rfl⟩ : ∃ m', m = m' + 1 := ⟨m - 1, by omega⟩
    obtain ⟨here, hhere⟩ : ∃ here, wl[i]? = some here := ⟨wl[i], by simp [hil]⟩
    have hhl : here.length ≤ lonW st := D0.ln here (List.mem_of_getElem? hhere)
    have D3 := D0.mono e3
    have hp2 : (match endStep st wl here false with | none => true | some w1 => match endStep st w1 here true with | none => true | some w2 => endsF st m' w2 (i + 1)) = isEndless st := by
      rw [← hp]
      show _ = (match wl[i]? with | none => _ | some here => _)
      rw [hhere]
    refine ⟨_, fun σ2 H2 w => ⟨m', by omega, w⟩, ?_⟩
    -- for bit in BITS
    refine q_for (n := 2) (G := fun _ => True) (Y := YBit [false, true]) (src_word (ev_lit S_01.symm))
      (fun j σ2 H2 => ∃ (w2 : List W) (s4 s5 s6 s7 : Option V), EndAt st H H2 wa da w2 ∧ σ2 = [some (.ref a), some (.ref wa), some (.ref da), some (.int (i : Int)), s4, s5, s6, s7] ∧ w2[i]? = some here ∧
        ((j = 0 ∧ w2 = wl) ∨ (j = 1 ∧ endStep st wl here false = some w2) ∨ (j = 2 ∧ ∃ w1, endStep st wl here false = some w1 ∧ endStep st w1 here true = some w2)))
      (fun H4 e4 => ⟨wl, _, _, _, _, D3.mono e4, rfl, hhere, .inl ⟨rfl, rfl⟩⟩) (fun _ _ _ _ _ => trivial) ?_ ?_
    · rintro j x σ2 Ha Hb hj ⟨w2, t4, t5, t6, t7, D2, rfl, hw2, hst⟩ ⟨rfl, b, hb', rfl⟩
      have step : ∃ rest : List W → Bool, isEndless st = (match endStep st w2 here b with | none => true | some w3 => rest w3) := by
        rcases hst with ⟨rfl, rfl⟩ | ⟨rfl, h1⟩ | ⟨rfl, _⟩
        · have : b = false := by simpa using hb'.symm
          subst this
          exact ⟨_, hp2.symm⟩
        · have : b = true := by simpa using hb'.symm
          subst this
          rw [h1] at hp2
          exact ⟨_, hp2.symm⟩
        · omega
      obtain ⟨rest, step⟩ := step
      have after : ∀ w3, endStep st w2 here b = some w3 → (j + 1 = 0 ∧ w3 = wl) ∨ (j + 1 = 1 ∧ endStep st wl here false = some w3) ∨ (j + 1 = 2 ∧ ∃ w1, endStep st wl here false = some w1 ∧ endStep st w1 here true = some w3) := by
        intro w3 h3
        rcases hst with ⟨rfl, rfl⟩ | ⟨rfl, h1⟩ | ⟨rfl, _⟩
        · have : b = false := by simpa using hb'.symm
          subst this
          exact .inr (.inl ⟨rfl, h3⟩)
        · have : b = true := by simpa using hb'.symm
          subst this
          exact .inr (.inr ⟨rfl, w2, h1, h3⟩)
        · omega
      have hat : atI (w2.map fun w => V.str (S w)) (i : Int) = some (V.str (S here)) := atI_nat' (by rw [List.getElem?_map, hw2]; rfl)
      refine g_name ?_
      refine q_asg (v := .str (S (here ++ [b]))) (ev_addT (ev_ixL (ev_var rfl) (ev_var rfl) (sq_of D2.wt) hat) (ev_var rfl) (by rw [List.length_singleton]; omega)) fun H5 e5 => ?_
      have D5 := D2.mono e5
      refine q_asg (v := optS (putIn st (here ++ [b]))) (ev_put_in (ev_var rfl) (R.mono D5.ex) hS (by rw [List.length_append, List.length_singleton]; omega) (ea_cons (ev_var rfl) ea_nil)) fun H6 e6 => ?_
      have D6 := D5.mono e6
      refine q_when (et_test (ev_isN (ev_var rfl))) (fun hn H7 e7 => ?_) (fun hn H7 e7 => ?_)
      · rw [optS_none] at hn
        have z : endStep st w2 here b = none := by
          unfold endStep
          rw [Option.isNone_iff_eq_none.mp hn]
        rw [z] at step
        refine s_ret (v := .bl true) ev_c fun H8 e8 => ?_
        have q := k H8 ((D6.ex.trans e7).trans e8)
        rw [step] at q
        exact q
      · rw [optS_none] at hn
        obtain ⟨more, hmore⟩ : ∃ more, putIn st (here ++ [b]) = some more := by
          cases q : putIn st (here ++ [b]) with
          | none => rw [q] at hn; cases hn
          | some more => exact ⟨more, rfl⟩
        have hml := putIn_len hmore
        have D7 := D6.mono e7
        refine q_asg (v := .str (S (tailW (here ++ [b] ++ more) (lonW st)))) (ev_tail (ea_cons (ev_addT (ev_var rfl) (ev_is (ev_var rfl) (by rw [hmore]; rfl)) (by rw [List.length_append, List.length_singleton]; omega)) (ea_cons (ev_longest (ev_var rfl) (R.mono D7.ex) hS.toFew) ea_nil)) (by rw [List.length_append, List.length_append, List.length_singleton]; omega)) fun H8 e8 => ?_
        have D8 := D7.mono e8
        refine s_when (et_B (ev_dNotIn (ev_var rfl) (ev_var rfl) D8.dk)) (fun hin H9 e9 => ?_) (fun hin H9 e9 => ?_)
        · have hni : tailW (here ++ [b] ++ more) (lonW st) ∉ w2 := by simpa using hin
          have D9 := D8.mono e9
          have hl9 := nodup_words D9.nd D9.ln
          have z : endStep st w2 here b = some (w2 ++ [tailW (here ++ [b] ++ more) (lonW st)]) := by
            unfold endStep
            rw [hmore]
            show some (if _ then _ else _) = _
            rw [if_neg hni]
          refine q_dput ev_c (ev_var rfl) (ev_var rfl) D9.dk hni (by omega) fun HA eA => ?_
          have exA : Ex H (upd HA da (.dK (dkT (w2 ++ [tailW (here ++ [b] ++ more) (lonW st)])))) := Ex.mut (D9.ex.trans eA) hdaH
          have wtA : (upd HA da (.dK (dkT (w2 ++ [tailW (here ++ [b] ++ more) (lonW st)])))) wa = some (.lst (w2.map fun w => V.str (S w))) := by
            rw [upd_ne hne]
            exact eA _ _ D9.wt
          refine s_app wtA (ev_var rfl) (v := .str (S (tailW (here ++ [b] ++ more) (lonW st)))) (ev_var rfl) (by rw [List.length_map]; omega) fun HB eB => ?_
          refine ⟨w2 ++ [tailW (here ++ [b] ++ more) (lonW st)], _, _, _, _, ⟨Ex.mut (exA.trans eB) hwa, ?_, ?_, nodup_snoc D9.nd hni, fun w hw => ?_⟩, rfl, ?_, after _ z⟩
          · rw [upd_same, List.map_append]
            rfl
          · rw [upd_ne hne.symm]
            exact eB _ _ upd_same
          · rcases List.mem_append.mp hw with hw | hw
            · exact D9.ln w hw
            · rw [List.mem_singleton.mp hw, tailW_len]
              omega
          · rw [List.getElem?_append_left (List.getElem?_eq_some_iff.mp hw2).1]
            exact hw2
        · have hyes : tailW (here ++ [b] ++ more) (lonW st) ∈ w2 := by simpa using hin
          have z : endStep st w2 here b = some w2 := by
            unfold endStep
            rw [hmore]
            show some (if _ then _ else _) = _
            rw [if_pos hyes]
          exact ⟨w2, _, _, _, _, D8.mono e9, rfl, hw2, after _ z⟩
    · rintro σ2 H2 ⟨w2, t4, t5, t6, t7, D2, rfl, hw2, hst⟩
      obtain ⟨w1, h1, h2⟩ : ∃ w1, endStep st wl here false = some w1 ∧ endStep st w1 here true = some w2 := by
        rcases hst with ⟨h, _⟩ | ⟨h, _⟩ | ⟨_, h⟩
        · cases h
        · cases h
        · exact h
      rw [h1] at hp2
      dsimp only at hp2
      rw [h2] at hp2
      refine s_aug (a := (i : Int)) (b := 1) rfl ev_c fun H4 e4 => ?_
      exact ⟨w2, i + 1, _, _, _, _, D2.mono e4, rfl, (List.getElem?_eq_some_iff.mp hw2).1, by omega, hp2⟩
  · have hil : wl.length ≤ i := by have := of_decide_eq_false hb; omega
    obtain ⟨m', rfl⟩ : ∃ m', m = m' + 1 := ⟨m - 1, by omega⟩
    have z : isEndless st = false := by
      rw [← hp]
      show (match wl[i]? with | none => _ | some here => _) = _
      rw [List.getElem?_eq_none_iff.mpr hil]
    refine s_ret (v := .bl false) ev_c fun H4 e4 => ?_
    have q := k H4 ((D0.ex.trans e3).trans e4)
    rw [z] at q
    exact q
theorem len_Rule_is_endless : ∀ vs H Q E, sp_Rule_is_endless K A vs H Q E → vs.length = 1 := by
  rintro vs H Q E ⟨a, f, st, rfl, _⟩
  rfl
theorem ev_is_endless {a : Addr} {f : W} {st : St'} {E : XK} (h : Ev te σ H (.ref a)) (R : RuleAt K A H a f st) (hS : Small st) : Ev (tMeth A.C_Rule "is_endless" (sp_Rule_is_endless K A) [] E te tNil) σ H (.bl (isEndless st)) := by
  obtain ⟨dx, t, ps, h1, _⟩ := id R.ob
  exact ev_meth h h1 (flds_no _ _ (by decide +kernel) (by decide +kernel)) ea_nil fun H1 e Q q E => ⟨a, f, st, rfl, R.mono e, hS, q⟩
end
end Fl

namespace Fl
open PySem L2 Evl TL StX
/-! ### sorted stuffs -/
def encS (s : W × Bool) : PyData := .tuple [.str (S s.1), .str (S [s.2])]
def leS : (W × Bool) → (W × Bool) → Bool := PySem.W.dataLe false encS
def sortSt (st : St') : St' := st.mergeSort leS
theorem sortSt_perm (st : St') : (sortSt st).Perm st := List.mergeSort_perm _ _
theorem sortSt_mem {st : St'} {s : W × Bool} : s ∈ sortSt st ↔ s ∈ st := (sortSt_perm st).mem_iff
theorem sortSt_len (st : St') : (sortSt st).length = st.length := List.length_mergeSort _
theorem small_of {st : St'} (h : ∀ s ∈ st, s.1.length ≤ 10) (hl : st.length ≤ 1000) : Small (sortSt st) :=
  ⟨by rw [sortSt_len]; exact hl, lonW_le fun s hs => h s (sortSt_mem.mp hs)⟩
section
variable {K : PySem.W.Frag} {A : Ad} {σ : L2.St} {H H' : Hp} {ta te tb : TE} {tr : TA} {vs : List V} {D : Ends} {v : V} {tz : TS}
def gZ (z : V × (W × Bool)) : V × Str × Str := (z.1, S z.2.1, S [z.2.2])
def leZ (a b : V × (W × Bool)) : Bool := leS a.2 b.2
theorem leZ_g (a b : V × (W × Bool)) : leZ a b = leP (gZ a) (gZ b) := rfl
theorem zip_pair {xs : List V} {st : St'} (h : StL K H xs st) : ∀ z ∈ xs.zip st, PairAt K H z.1 z.2 := by
  induction h with
  | nil => intro z hz; cases hz
  | cons h1 _ ih =>
    intro z hz
    rw [List.zip_cons_cons] at hz
    rcases List.mem_cons.mp hz with e | hz
    · rw [e]; exact h1
    · exact ih z hz
theorem zip_fst {xs : List V} {st : St'} (h : StL K H xs st) : (xs.zip st).map (·.1) = xs ∧ (xs.zip st).map (·.2) = st := by
  induction h with
  | nil => exact ⟨rfl, rfl⟩
  | cons _ _ ih =>
    rw [List.zip_cons_cons, List.map_cons, List.map_cons, ih.1, ih.2]
    exact ⟨rfl, rfl⟩
theorem stl_map : ∀ {zs : List (V × (W × Bool))}, (∀ z ∈ zs, PairAt K H z.1 z.2) → StL K H (zs.map (·.1)) (zs.map (·.2))
  | [], _ => .nil
  | z :: r, h => .cons (h z (List.mem_cons_self ..)) (stl_map fun y hy => h y (List.mem_cons_of_mem _ hy))
/-- sorted of stuffs -/
theorem el_sortSt {H0 : Hp} {p : Addr} {xs : List V} {st : St'} (e0 : Ex H0 H) (ha : Ev te σ H (.ref p)) (hp : SqQ K H p xs) (hS : StL K H0 xs st) (hl : st.length ≤ 1000) : ∃ ys, (∀ H', Ex H0 H' → StL K H' ys (sortSt st)) ∧ EvL (tCB (rSortSt K) (tCons te tNil)) σ H ys := by
  refine ⟨((xs.zip st).mergeSort leZ).map (·.1), fun H' e => ?_, fun H1 e Q q => ha H1 e _ fun H2 e2 => ?_⟩
  · have h1 : sortSt st = ((xs.zip st).mergeSort leZ).map (·.2) := by
      unfold sortSt
      rw [PySem.W.sort_maps (r := leZ) (s := leS) (fun z : V × (W × Bool) => z.2) (fun a _ b _ => rfl), (zip_fst hS).2]
    rw [h1]
    exact stl_map fun z hz => (zip_pair hS z ((List.mergeSort_perm _ _).mem_iff.mp hz)).mono e
  · have h2 : (((xs.zip st).map gZ).mergeSort leP).map (·.1) = ((xs.zip st).mergeSort leZ).map (·.1) := by
      rw [← PySem.W.sort_maps (r := leZ) gZ (fun a _ b _ => leZ_g a b), List.map_map]
      rfl
    have h3 : ((xs.zip st).map gZ).map (·.1) = xs := by
      rw [List.map_map]
      exact (zip_fst hS).1
    refine ⟨p, (xs.zip st).map gZ, rfl, ?_, fun b hb => ?_, ?_, fun l hl => ?_⟩
    · rw [h3]
      exact hp.mono (e.trans e2)
    · obtain ⟨z, hz, rfl⟩ := List.mem_map.mp hb
      obtain ⟨q1, h4, h5⟩ := (zip_pair hS z hz).mono (e0.trans (e.trans e2))
      exact ⟨q1, h4, h5⟩
    · have := stl_len hS
      rw [List.length_map, List.length_zip]
      omega
    · rw [h2]
      exact q l _ (fresh_back e2 hl) (e2.trans (Ex.new hl)) upd_same
/-- tuple of a new list -/
def rTupleOf (K : PySem.W.Frag) : List V → Hp → VK → Prop := fun xs H Q => ∃ p ys, xs = [.ref p] ∧ ((SqL K H p ys ∧ ∀ l, H l = none → Q (.ref l) (upd H l (.tup ys))) ∨ (SqT K H p ys ∧ Q (.ref p) H))
theorem callTupleOf {X : Cx} : CallR X (.type "tuple") (rTupleOf X.K) := call_tuple_of
theorem eu_tupleOf {ys : List V} (h : EvL te σ H ys) : EvU (tCB (rTupleOf K) (tCons te tNil)) σ H ys := fun H1 e Q q =>
  h H1 e _ fun p H2 hp e2 h2 => ⟨p, ys, rfl, .inl ⟨sq_of h2, fun l hl => q l _ (fresh_back e2 hl) (e2.trans (Ex.new hl)) upd_same⟩⟩
/-! ### Rule.__init__ -/
inductive Made where
  | bad (word : Str) | ok (f : W) (st : St')
def ruleOf (df dt : Dt) : Made := match wordD df with
  | none => .bad "flag"
  | some w => if w.length < 2 then .bad "flag" else match stuffsOf dt with
    | none => .bad "stuffs"
    | some st => if parted st = false then .bad "stuffs" else if isEndless (sortSt st) = true then .bad "endless" else .ok w (sortSt st)
/-- what a caller wants of a rule to be made, the heap without it H0 -/
def MadeK (K : PySem.W.Frag) (A : Ad) (H0 : Hp) (a : Addr) (Q : VK) (E : XK) : Made → Prop
  | .bad word => ∀ H2 d, Ex H0 H2 → H0 d = none → H2 d = some (.xd [(("word" : Str), .str word)]) → E (.ref A.C_InvalidRule) (some d) H2
  | .ok f st => ∀ H2, Ex H0 H2 → RuleAt K A H2 a f st → Q .non H2
def sp_Rule___init__ (K : PySem.W.Frag) (A : Ad) : Sp := fun vs H Q E => ∃ (a dx : Addr) (H0 : Hp) (vf vt : V) (df dt : Dt), vs = [.ref a, vf, vt] ∧ Ex H0 H ∧ H0 a = none ∧ H a = some (.ins A.C_Rule dx []) ∧ DtAt K A H0 vf df ∧ DtAt K A H0 vt dt ∧ (∀ st, stuffsOf dt = some st → ∀ s ∈ st, s.1.length ≤ 10) ∧ MadeK K A H0 a Q E (ruleOf df dt)
def t_Rule___init__ (K : PySem.W.Frag) (A : Ad) (E : XK) : TS :=
  (tSeq (tIfS (tOr (tNot (tB (tCall (sp_is_word K A) [] E0 (tCons (tVar 1) tNil)))) (tTest (tOp rLtI (tCB rLenT (tCons (tVar 1) tNil)) (tC (.int 2))))) (Exc_word.tRaise A.C_InvalidRule (fun cls d _ H => E cls d H) (tCons (tC (.str "flag")) tNil)) tNext)
    (tSeq (tIfS (tNot (tB (tCall (sp_are_stuffs K A) [] E0 (tCons (tVar 2) tNil)))) (Exc_word.tRaise A.C_InvalidRule (fun cls d _ H => E cls d H) (tCons (tC (.str "stuffs")) tNil)) tNext)
    (tSeq (sFld K (tVar 0) (tVar 1) "flag")
    (tSeq (sFld K (tVar 0) (tCB (rTupleOf K) (tCons (tCB (rSortSt K) (tCons (tVar 2) tNil)) tNil)) "stuffs")
    (tIfS (tB (tMeth A.C_Rule "is_endless" (sp_Rule_is_endless K A) [] E0 (tVar 0) tNil)) (Exc_word.tRaise A.C_InvalidRule (fun cls d _ H => E cls d H) (tCons (tC (.str "endless")) tNil)) tNext)))))
theorem s_fld {a C dx : Addr} {fs : List (Str × V)} {f : Str} (hv : Ev te σ H v) (ha : Ev ta σ H (.ref a)) (ho : H a = some (.ins C dx fs)) (hc : Cls K C) (hn : NoAttr K C f) (hl : fs.length < 1000) (k : ∀ H1, Ex H H1 → D.nx σ (upd H1 a (.ins C dx (putF f v fs)))) : sFld K ta te f D σ H :=
  hv H (Ex.refl H) _ fun H1 e1 => ha H1 e1 _ fun H2 e2 => ⟨a, C, dx, fs, rfl, (e1.trans e2) _ _ ho, hc, hn, hl, k H2 (e1.trans e2)⟩
theorem q_fld {a C dx : Addr} {fs : List (Str × V)} {f : Str} (hv : Ev te σ H v) (ha : Ev ta σ H (.ref a)) (ho : H a = some (.ins C dx fs)) (hc : Cls K C) (hn : NoAttr K C f) (hl : fs.length < 1000) (k : ∀ H1, Ex H H1 → tz D σ (upd H1 a (.ins C dx (putF f v fs)))) : tSeq (sFld K ta te f) tz D σ H :=
  s_fld (D := { D with nx := tz D }) hv ha ho hc hn hl k
theorem q_fldU {a C dx : Addr} {fs : List (Str × V)} {f : Str} {ys : List V} (hv : EvU te σ H ys) (ha : Ev ta σ H (.ref a)) (ho : H a = some (.ins C dx fs)) (hc : Cls K C) (hn : NoAttr K C f) (hl : fs.length < 1000) (k : ∀ p H1, H p = none → Ex H H1 → H1 p = some (.tup ys) → tz D σ (upd H1 a (.ins C dx (putF f (.ref p) fs)))) : tSeq (sFld K ta te f) tz D σ H :=
  hv H (Ex.refl H) _ fun p H1 hp e1 h1 => ha H1 e1 _ fun H2 e2 => ⟨a, C, dx, fs, rfl, (e1.trans e2) _ _ ho, hc, hn, hl, k p H2 hp (e1.trans e2) (e2 _ _ h1)⟩
/-- raise of an exception with a field -/
theorem s_raise {E : XK} {C : Addr} (ha : EvA tr σ H [v]) (k : ∀ H1 d, Ex H H1 → H d = none → H1 d = some (.xd [(("word" : Str), v)]) → E (.ref C) (some d) H1) : Exc_word.tRaise C (fun cls d _ H => E cls d H) tr D σ H :=
  ha H (Ex.refl H) _ fun H1 e1 => ⟨v, rfl, fun d hd => k _ d (e1.trans (Ex.new hd)) (fresh_back e1 hd) upd_same⟩
theorem stuffs_len {dt : Dt} {st : St'} (h : stuffsOf dt = some st) (hd : DtAt K A H v dt) : ∃ p xs, v = .ref p ∧ SqQ K H p xs ∧ StL K H xs st ∧ st.length ≤ 1000 := by
  cases hd with
  | tup h1 h2 h3 =>
    have hp := stuffsL_pair h
    have hl := Paired.length hp
    exact ⟨_, _, rfl, .inr h1, stl_of h2 hp, by omega⟩
  | lst h1 h2 h3 =>
    have hp := stuffsL_pair h
    have hl := Paired.length hp
    exact ⟨_, _, rfl, .inl h1, stl_of h2 hp, by omega⟩
  | _ => cases h
theorem pure_Rule___init__ (T : Tx K A) (vs : List V) (H : Hp) (Q : VK) (E : XK) (h : sp_Rule___init__ K A vs H Q E) : t_Rule___init__ K A E { nx := fun _ H' => Q .non H', rt := Q } (start ["self", "flag", "stuffs"] vs) H := by
  obtain ⟨a, dx, H0, vf, vt, df, dt, rfl, e0, ha0, ha, hf, ht, hsm, k⟩ := h
  unfold ruleOf at k
  have bad : ∀ word : Str, MadeK K A H0 a Q E (.bad word) → ∀ H1 d, Ex H0 H1 → H0 d = none → H1 d = some (.xd [(("word" : Str), .str word)]) → E (.ref A.C_InvalidRule) (some d) H1 := fun word k H1 d e h1 h2 => k H1 d e h1 h2
  cases hw : wordD df with
  | none =>
    rw [hw] at k
    refine q_when (et_or (b := true) (et_is (et_not (et_B (ev_is_word (ea_cons (ev_var rfl) ea_nil) (hf.mono e0)))) (by rw [hw])) fun hc => by cases hc) (fun hb H1 e1 => ?_) (fun hb => by cases hb)
    exact s_raise (ea_cons ev_c ea_nil) fun H2 d e2 h1 h2 => k H2 d ((e0.trans e1).trans e2) (fresh_back (e0.trans e1) h1) h2
  | some w =>
    rw [hw] at k
    have e := wordD_some hw
    subst e
    obtain ⟨rfl, hwl⟩ := str_small hf
    refine q_when (et_or (b := decide (w.length < 2)) (et_is (et_not (et_B (ev_is_word (ea_cons (ev_var rfl) ea_nil) (hf.mono e0)))) (by rw [hw])) fun _ => et_is (et_test (ev_ltI (ev_lenT (ev_var rfl) (by omega)) ev_c)) (decide_eq_decide.mpr (by omega))) (fun hb H1 e1 => ?_) (fun hb H1 e1 => ?_)
    · have hlt : w.length < 2 := of_decide_eq_true hb
      dsimp only at k
      rw [if_pos hlt] at k
      exact s_raise (ea_cons ev_c ea_nil) fun H2 d e2 h1 h2 => k H2 d ((e0.trans e1).trans e2) (fresh_back (e0.trans e1) h1) h2
    · have hlt : ¬ w.length < 2 := of_decide_eq_false hb
      dsimp only at k
      rw [if_neg hlt] at k
      have ex1 := e0.trans e1
      have ha1 := e1 _ _ ha
      refine q_when (et_not (et_B (ev_are_stuffs (ea_cons (ev_var rfl) ea_nil) (ht.mono ex1)))) (fun hb2 H2 e2 => ?_) (fun hb2 H2 e2 => ?_)
      · have k' : MadeK K A H0 a Q E (.bad "stuffs") := by
          have hb3 : areStuffs dt = false := by simpa using hb2
          unfold areStuffs at hb3
          cases hs : stuffsOf dt with
          | none => rw [hs] at k; exact k
          | some st =>
            rw [hs] at k hb3
            dsimp only at k hb3
            rw [if_pos hb3] at k
            exact k
        exact s_raise (ea_cons ev_c ea_nil) fun H3 d e3 h1 h2 => k' H3 d ((ex1.trans e2).trans e3) (fresh_back (ex1.trans e2) h1) h2
      · have hb3 : areStuffs dt = true := by simpa using hb2
        unfold areStuffs at hb3
        obtain ⟨st, hs⟩ : ∃ st, stuffsOf dt = some st := by
          cases hs : stuffsOf dt with
          | none => rw [hs] at hb3; cases hb3
          | some st => exact ⟨st, rfl⟩
        rw [hs] at k hb3
        dsimp only at k hb3
        rw [if_neg (by rw [hb3]; exact fun h => by cases h)] at k
        have ex2 := ex1.trans e2
        have ha2 := e2 _ _ ha1
        refine q_fld (v := .str (S w)) (ev_var rfl) (ev_var rfl) ha2 T.cl_Rule T.na_flag (by show 0 < 1000; decide) fun H3 e3 => ?_
        have ex3 : Ex H0 (upd H3 a (.ins A.C_Rule dx [(("flag" : Str), .str (S w))])) := Ex.mut (ex2.trans e3) ha0
        obtain ⟨p, xs, rfl, hp, hS, hl⟩ := stuffs_len hs ht
        obtain ⟨ys, hys, hev⟩ := el_sortSt (σ := start ["self", "flag", "stuffs"] [V.ref a, V.str (S w), V.ref p]) (te := tVar 2) (H := upd H3 a (.ins A.C_Rule dx [(("flag" : Str), .str (S w))])) ex3 (ev_var rfl) (hp.mono ex3) hS hl
        refine q_fldU (eu_tupleOf hev) (ev_var rfl) upd_same T.cl_Rule T.na_stuffs (by show 1 < 1000; decide) fun q H4 hq e4 h4 => ?_
        have ex4 : Ex H0 (upd H4 a (.ins A.C_Rule dx (flds w q))) := Ex.mut (ex3.trans e4) ha0
        have hqa : q ≠ a := ne_of_none upd_same hq |>.symm
        have hR : RuleAt K A (upd H4 a (.ins A.C_Rule dx (flds w q))) a w (sortSt st) := by
          refine ⟨dx, q, ys, upd_same, ?_, hys _ ex4⟩
          refine st_of ?_
          rw [upd_ne hqa]
          exact h4
        have hS' := small_of (hsm st hs) hl
        refine s_when (et_B (ev_is_endless (ev_var rfl) hR hS')) (fun hb4 H5 e5 => ?_) (fun hb4 H5 e5 => ?_)
        · rw [if_pos hb4] at k
          exact s_raise (ea_cons ev_c ea_nil) fun H6 d e6 h1 h2 => k H6 d ((ex4.trans e5).trans e6) (fresh_back (ex4.trans e5) h1) h2
        · rw [if_neg (by rw [hb4]; exact fun h => by cases h)] at k
          exact k H5 (ex4.trans e5) (hR.mono e5)
theorem len_Rule___init__ : ∀ vs H Q E, sp_Rule___init__ K A vs H Q E → vs.length = 3 := by
  rintro vs H Q E ⟨a, dx, H0, vf, vt, df, dt, rfl, _⟩
  rfl
end
end Fl

namespace Fl
open PySem L2 PySem.W
/-- all arguments are handed to a def that has defaults -/
theorem binds_full {K : Frag} {x qual : Str} {params : Arguments} {body : List Stmt} {scope : Scope} {dvs : List V} {kws : List (Str × V)} {f : Addr} {fd : FuncData} {ps : List Str} (F : FunD K x qual params body scope dvs kws f fd) (hne : dvs ≠ [])
    (h : ∀ (T : Addr) (kV doc pm : Value) (an : Option Addr) (cdv ct : Value) (us its : List Value), us.length = ps.length → its.length = dvs.length → ∃ k, bindArgs (fnOf x qual params body scope (.ref T) kV doc pm an cdv ct) ⟨us, []⟩ = (seqItems? (.ref T) >>= k) ∧ k (some its.toArray) = pure (ps.zip us)) : L2.Binds K fd ps [] := by
  intro s us X hl M A E Q q
  rw [List.append_nil] at hl q
  obtain ⟨oc, od, dV, kV, doc, pm, an, cdv, ct, osl, rfl, _, _, hd, _⟩ := F.ex
  rcases hd with ⟨e, _⟩ | ⟨_, T, o, its, n, rfl, hT, ho, hv⟩
  · exact absurd e hne
  · obtain ⟨k, h1, h2⟩ := h T kV doc pm an cdv ct us its hl hv.length.symm
    rw [h1]
    refine wpAny_bind (wpAny_seqItems (X _ _ hT) ho ?_)
    rw [h2]
    exact wpAny_pure q
theorem kit_own {K : Frag} {C : Addr} {T : String} {b : Bool} (hm : mroIn K C (.type T) = some b) (hk : kitMeta T = true) : kitOne K (.ref C) (.type T) = some b := by
  unfold kitOne
  rw [if_neg (by simp)]
  unfold kitCls
  show (if kitMeta T = true then subIn K (.ref C) (.type T) else none) = some b
  rw [if_pos hk]
  exact hm
theorem along_of {K : Frag} {C F : Addr} {name : Str} {nm q : Str} {N : Addr} {bs bm : List Value} {hd : Bool} {sn : List Str} {sub : List Value} {ab : Bool} {col : Option Bool} {dd : Option Addr} {k0 k1 k2 k3 k5 : Option Value} {i : String}
    {nm' q' : Str} {N' : Addr} {bs' bm' : List Value} {hd' : Bool} {sn' : List Str} {sub' : List Value} {ab' : Bool} {col' : Option Bool} {dd' : Option Addr} {k0' k1' k2' k3' k5' : Option Value} {i' : String} {r : Option (Option Value)}
    (hC : K.lookup C = some (excClassObj nm q C N bs bm hd sn sub ab col dd k0 k1 k2 k3 k5 i)) (hF : K.lookup F = some (excClassObj nm' q' F N' bs' bm' hd' sn' sub' ab' col' dd' k0' k1' k2' k3' k5' i')) (hb : bm = .ref F :: bm') (hf : findIn K (.ref F) name = r) : ks_superIn K C C name = r := by
  have e : clsIn K C = some { name := nm, bases := bs, mro := .ref C :: bm, ns := N, qualname := q, hasDict := hd, slotNames := sn, subclasses := sub, abstract := ab, collection := col, hasDel := false } := by unfold clsIn; rw [hC] <;> rfl
  unfold ks_superIn
  rw [e]
  show alongIn K name (List.drop 1 (List.dropWhile (fun x => x != .ref C) (.ref C :: bm))) = r
  rw [ESX.drop_own, hb, ← hf]
  unfold findIn
  dsimp only
  rw [hF]
theorem exi_of {K : Frag} {C : Addr} {nm q : Str} {N : Addr} {bs bm bmB : List Value} {hd : Bool} {sn : List Str} {sub : List Value} {ab : Bool} {col : Option Bool} {dd : Option Addr} {k0 k1 k2 k3 k5 : Option Value} {i : String}
    (hC : K.lookup C = some (excClassObj nm q C N bs bm hd sn sub ab col dd k0 k1 k2 k3 k5 i)) (ht : excTail bmB bm = true) : excInitIn K C bmB i = true := by
  unfold excInitIn
  rw [hC]
  show (C == C && i == i && !false && excTail bmB bm) = true
  rw [ht]
  simp
theorem un_of {k : Nat} {A : Around} (h : Room k A) : A.units + 20 < cLine := by
  have := h.un
  omega
/-- what a make inside a try may raise: the clauses' wish at every state of the slots -/
def EA (W : WX) (n : Nat) : XK := fun cls d H => ∀ σ : L2.St, σ.length = n → W cls d σ H
theorem passA {X : Cx} {W : WX} {n : Nat} (hn : X.N.length = n) (tk : Takes X W) : Passes (L2.CX X.prog X.w) X (EA W n) := by
  intro pins σ H s e s' I c
  refine passAt tk σ pins H s e s' I ?_
  obtain ⟨a, B, H', cls, d, h1, h2, h3, h4, h5, h6, h7, h8⟩ := c
  exact ⟨a, B, H', cls, d, h1, h2, h3, h4, h5, h6, h7, h8 σ (I.len.trans hn)⟩
end Fl

/-! xs[::e], e an expression that is -1 -/
namespace Fl
open PySem PySem.W PyProof.Rows L2 Evl TL StX
def tRevS (K : Frag) (te ts : TE) : TE := fun σ H Q => te σ H fun x H1 => ts σ H1 fun y H2 => y = .int (-1) ∧ ∃ a xs, x = .ref a ∧ SqL K H2 a xs ∧ ∀ p, H2 p = none → Q (.ref p) (upd H2 p (.lst xs.reverse))
theorem vals_rev : ∀ {xs : List V} {us : List Value}, Vals xs us → Vals xs.reverse us.reverse
  | _, _, .nil => .nil
  | _, _, .cons h1 h2 => by
    rw [List.reverse_cons, List.reverse_cons]
    exact paired_app (vals_rev h2) (.cons h1 .nil)
theorem pe_revS {X : Cx} {e st : Expr} {te ts : TE} {p3 pos : Pos} (he : PE X e te) (hst : PE X st ts) :
    PE X (e.Subscript (.Slice none none (some st) p3) pos) (tRevS X.K te ts) := by
  refine ⟨fun pins s σ H Q I h => Subscript_ (thn (he.run pins s σ H _ I h) fun u s1 hh => ?_)⟩
  obtain ⟨x, H1, I1, rx, h1⟩ := hh
  refine wpAny_Slice ?_
  show wpAny _ _ (pure Value.none) _ _ _
  refine wpAny_pure ?_
  show wpAny _ _ (pure Value.none) _ _ _
  refine wpAny_pure ?_
  show wpAny _ _ (eval st X.env) _ _ _
  refine thn (hst.run pins s1 σ H1 _ I1 h1) fun u2 s2 hh => ?_
  obtain ⟨y, H2, I2, ry, rfl, a, xs, rfl, hx, k⟩ := hh
  obtain ⟨t, rfl⟩ := ry
  obtain rfl : u = Value.ref a := rx
  obtain ⟨its, rv, ⟨o, n, ho, hc, hdn, hd⟩, hz⟩ := I2.list hx
  have k2 : ∀ b o', s2.heap.get? b = some o' → (s2.heap.push { cls := Value.type "slice", data := Data.fields #[Value.none, Value.none, Value.int (-1) t] }).get? b = some o' := fun b o' e => Heap.get?_push_of_some _ e
  have hnew : (s2.heap.push { cls := Value.type "slice", data := Data.fields #[Value.none, Value.none, Value.int (-1) t] }).get? s2.heap.objs.size = some { cls := Value.type "slice", data := Data.fields #[Value.none, Value.none, Value.int (-1) t] } := by heap_get
  have I3 := I2.kept (t' := s2.toks) k2
  have hsz : its.toArray.size ≤ sizeLine := by
    rw [List.size_toArray, ← rv.length]
    exact hz
  refine subscriptTail_builtinR (T := "list") (id := "list.__getitem__") (x := .ref (s2.heap.push { cls := Value.type "slice", data := Data.fields #[Value.none, Value.none, Value.int (-1) t] }).objs.size) ?_ PySem.F.slot_list_getitem.lookup ?_ rfl
  · exact ⟨o, k2 _ _ ho, hc⟩
  · refine wpAny_getItem_list_slice (lo := none) (hi := none) (st := some (-1)) ⟨o, k2 _ _ ho, hc, n, hd⟩ ⟨_, hnew, rfl, rfl⟩ .none .none (.int _ _) (by decide) ?_ hsz
    refine ⟨rfl, ?_⟩
    rw [krv_pick]
    refine ⟨.ref _, _, I3.laid (a := _) (o := .lst xs.reverse) (fun b u e => Heap.get?_push_of_some _ e) (Nat.le_refl _) ?_, rfl, k _ (I3.hok.fresh (Nat.le_refl _))⟩
    unfold ObjOk
    refine ⟨by rw [List.length_reverse]; exact hz, its.reverse, 0, vals_rev rv, ?_⟩
    heap_get
end Fl

/-! Rules without end: what the program's search and the law's search find is the same -/
namespace Fl
open PySem L2
theorem nodup_range {α : Type} {f : Nat → α} : ∀ {m : Nat}, (∀ i j, i < j → j < m → f i ≠ f j) → ((List.range m).map f).Nodup
  | 0, _ => List.nodup_nil
  | m + 1, h => by
    rw [List.range_succ, List.map_append, List.map_singleton]
    refine nodup_snoc (nodup_range fun i j h1 h2 => h i j h1 (by omega)) fun hm => ?_
    obtain ⟨i, hi, e⟩ := List.mem_map.mp hm
    exact h i m (List.mem_range.mp hi) (by omega) e
theorem tailW_app (l m : W) (n : Nat) : tailW (l ++ m) n = tailW (tailW l n ++ m) n := by
  unfold tailW
  rw [List.length_append, List.length_append, List.length_drop, List.drop_append, List.drop_append, List.drop_drop, List.length_drop]
  by_cases h : n ≤ m.length
  · rw [List.drop_eq_nil_of_le (as := l) (by omega), List.drop_eq_nil_of_le (as := l) (by omega)]
    congr 2
    omega
  · congr 2
    · omega
    · omega
theorem tailW_le (l : W) {n m : Nat} (h : n ≤ m) : tailW (tailW l m) n = tailW l n := by
  unfold tailW
  rw [List.length_drop, List.drop_drop]
  congr 1
  omega
theorem tailW_self (l : W) (n : Nat) : tailW (tailW l n) n = tailW l n := tailW_le l (Nat.le_refl _)
theorem ends_tail (l p : W) {n : Nat} (h : p.length ≤ n) : endsW (tailW l n) p = endsW l p := by
  unfold endsW
  rw [tailW_len]
  by_cases h1 : p.length ≤ l.length
  · rw [decide_eq_true h1, decide_eq_true (show p.length ≤ min n l.length by omega)]
    have e : (tailW l n).drop (min n l.length - p.length) = l.drop (l.length - p.length) := by
      unfold tailW
      rw [List.drop_drop]
      congr 1
      omega
    rw [e]
  · rw [decide_eq_false h1, decide_eq_false (show ¬ p.length ≤ min n l.length by omega)]
    rfl
theorem ends_mem {l p : W} (h : endsW l p = true) : ∃ q, l = q ++ p := by
  unfold endsW at h
  simp at h
  exact ⟨l.take (l.length - p.length), by conv => lhs; rw [← List.take_append_drop (l.length - p.length) l, h.2]⟩
theorem ends_app (q p : W) : endsW (q ++ p) p = true := by
  unfold endsW
  rw [List.length_append, Nat.add_sub_cancel, List.drop_left]
  simp
/-- two ends of one line: the shorter is the end of the longer -/
theorem ends_two {l p q : W} (hp : endsW l p = true) (hq : endsW l q = true) (hl : q.length ≤ p.length) : endsW p q = true := by
  obtain ⟨a, rfl⟩ := ends_mem hp
  unfold endsW at hq ⊢
  simp only [Bool.and_eq_true, decide_eq_true_eq] at hq ⊢
  refine ⟨hl, ?_⟩
  have h2 := hq.2
  rw [List.length_append, List.drop_append, List.drop_eq_nil_of_le (as := a) (by omega), List.nil_append] at h2
  rw [← h2]
  congr 1
  rw [h2]
  omega
section
variable (pt : W → Option Bool)
def step1 (l : W) : W := match pt l with
  | none => l
  | some b => l ++ [b]
def grow : Nat → W → W
  | 0, l => l
  | k + 1, l => step1 pt (grow k l)
def Stop (l : W) (k : Nat) : Prop := pt (grow pt k l) = none
def Never (l : W) : Prop := ∀ k, ¬ Stop pt l k
/-- what a rule's put tells depends on the last n bits alone -/
def Tailed (n : Nat) : Prop := ∀ l, pt (tailW l n) = pt l
variable {pt}
theorem Tailed.mono {n m : Nat} (h : Tailed pt n) (hm : n ≤ m) : Tailed pt m := fun l => by
  rw [← h (tailW l m), tailW_le l hm, h]
theorem step1_tail {n : Nat} (h : Tailed pt n) {l l' : W} (e : tailW l n = tailW l' n) : tailW (step1 pt l) n = tailW (step1 pt l') n := by
  unfold step1
  rw [← h l, ← h l', e]
  cases pt (tailW l' n) with
  | none => exact e
  | some b =>
    dsimp only
    rw [tailW_app, e, ← tailW_app]
theorem grow_tail {n : Nat} (h : Tailed pt n) {l l' : W} (e : tailW l n = tailW l' n) : ∀ k, tailW (grow pt k l) n = tailW (grow pt k l') n
  | 0 => e
  | k + 1 => step1_tail h (grow_tail h e k)
theorem stop_tail {n : Nat} (h : Tailed pt n) {l l' : W} (e : tailW l n = tailW l' n) (k : Nat) : Stop pt l k ↔ Stop pt l' k := by
  unfold Stop
  rw [← h (grow pt k l), ← h (grow pt k l'), grow_tail h e k]
theorem never_tail {n : Nat} (h : Tailed pt n) {l l' : W} (e : tailW l n = tailW l' n) : Never pt l ↔ Never pt l' :=
  ⟨fun q k s => q k ((stop_tail h e k).mpr s), fun q k s => q k ((stop_tail h e k).mp s)⟩
theorem grow_add (l : W) (i : Nat) : ∀ m, grow pt (i + m) l = grow pt m (grow pt i l)
  | 0 => rfl
  | m + 1 => by
    show step1 pt (grow pt (i + m) l) = step1 pt (grow pt m (grow pt i l))
    rw [grow_add l i m]
theorem stop_up {l : W} {k : Nat} (h : Stop pt l k) : ∀ m, grow pt (k + m) l = grow pt k l
  | 0 => rfl
  | m + 1 => by
    show step1 pt (grow pt (k + m) l) = _
    rw [stop_up h m]
    unfold step1
    rw [show pt (grow pt k l) = none from h]
theorem stop_more {l : W} {k m : Nat} (h : Stop pt l k) (hm : k ≤ m) : Stop pt l m := by
  obtain ⟨d, rfl⟩ := Nat.exists_eq_add_of_le hm
  unfold Stop
  rw [stop_up h d]
  exact h
theorem grow_len {l : W} : ∀ {k : Nat}, (∀ j, j < k → ¬ Stop pt l j) → (grow pt k l).length = l.length + k
  | 0, _ => rfl
  | k + 1, h => by
    have ih := grow_len (k := k) fun j hj => h j (by omega)
    show (step1 pt (grow pt k l)).length = _
    unfold step1
    cases e : pt (grow pt k l) with
    | none => exact absurd e (h k (by omega))
    | some b =>
      dsimp only
      rw [List.length_append, ih]
      rfl
theorem first_stop {l : W} {k : Nat} (h : Stop pt l k) : ∃ k0, k0 ≤ k ∧ Stop pt l k0 ∧ ∀ j, j < k0 → ¬ Stop pt l j := by
  induction k using Nat.strongRecOn with
  | _ k ih =>
    by_cases q : ∃ j, j < k ∧ Stop pt l j
    · obtain ⟨j, hj, hs⟩ := q
      obtain ⟨k0, h1, h2, h3⟩ := ih j hj hs
      exact ⟨k0, by omega, h2, h3⟩
    · exact ⟨k, Nat.le_refl _, h, fun j hj hs => q ⟨j, hj, hs⟩⟩
/-- where a tail comes again, nothing stops -/
theorem never_of {n : Nat} (h : Tailed pt n) {l : W} {i j : Nat} (hij : i < j) (e : tailW (grow pt i l) n = tailW (grow pt j l) n) (hno : ∀ m, m < j → ¬ Stop pt l m) : Never pt l := by
  intro k hk
  obtain ⟨k0, _, h2, h3⟩ := first_stop hk
  have hj : j ≤ k0 := by
    apply Decidable.byContradiction
    intro q
    exact hno k0 (by omega) h2
  obtain ⟨m, rfl⟩ := Nat.exists_eq_add_of_le hj
  have h4 : Stop pt (grow pt j l) m := by
    unfold Stop
    rw [← grow_add]
    exact h2
  have h5 : Stop pt (grow pt i l) m := (stop_tail h e m).mpr h4
  have h6 : Stop pt l (i + m) := by
    unfold Stop
    rw [grow_add]
    exact h5
  exact h3 (i + m) (by omega) h6
/-- what stops, stops soon: at most as many bits as there are words of n bits, and n - 1 -/
theorem soon {n : Nat} (h : Tailed pt n) {l : W} {k : Nat} (hk : Stop pt l k) (h1 : ∀ j, j < k → ¬ Stop pt l j) (hl : 1 ≤ l.length) (hn : 1 ≤ n) : k + 1 ≤ 2 ^ n + (n - 1) := by
  by_cases hb : k + 1 ≤ n - 1
  · have := Nat.two_pow_pos n
    omega
  · -- tails from n - 1 on are distinct words of n bits
    have hlen : ∀ i, i ≤ k → (grow pt i l).length = l.length + i := fun i hi => grow_len fun j hj => h1 j (by omega)
    have hnr : ∀ i j, i < j → j ≤ k → tailW (grow pt i l) n ≠ tailW (grow pt j l) n := fun i j hij hj e => never_of h hij e (fun m hm => h1 m (by omega)) k hk
    have hnd : ((List.range (k + 1 - (n - 1))).map fun i => code (tailW (grow pt (n - 1 + i) l) n) - 2 ^ n).Nodup := by
      refine nodup_range fun a b hab hb e => ?_
      have hl2 : ∀ i, i < k + 1 - (n - 1) → (tailW (grow pt (n - 1 + i) l) n).length = n := fun i hi => by
        rw [tailW_len, hlen _ (by omega)]
        omega
      have c1 := code_ge (tailW (grow pt (n - 1 + a) l) n)
      have c2 := code_ge (tailW (grow pt (n - 1 + b) l) n)
      rw [hl2 a (by omega)] at c1
      rw [hl2 b hb] at c2
      exact hnr (n - 1 + a) (n - 1 + b) (by omega) (by omega) (code_inj (by omega))
    have hlt := nodup_lt (2 ^ n) _ hnd fun x hx => by
      obtain ⟨i, hi, rfl⟩ := List.mem_map.mp hx
      have hi' := List.mem_range.mp hi
      have a1 := code_lt (tailW (grow pt (n - 1 + i) l) n)
      have hl2 : (tailW (grow pt (n - 1 + i) l) n).length = n := by
        rw [tailW_len, hlen _ (by omega)]
        omega
      rw [hl2, Nat.pow_succ] at a1
      have := Nat.two_pow_pos n
      omega
    rw [List.length_map, List.length_range] at hlt
    omega
/-- the lines that messages make -/
inductive Enc (pt : W → Option Bool) : W → Prop
  | nil : Enc pt []
  | next {l : W} {b : Bool} {k : Nat} : Enc pt l → Stop pt (l ++ [b]) k → Enc pt (grow pt k (l ++ [b]))
/-- there is a message behind which bits are put in without end -/
def Endless (pt : W → Option Bool) : Prop := ∃ l b, Enc pt l ∧ Never pt (l ++ [b])
theorem stop_same {l : W} {i j : Nat} (hi : Stop pt l i) (hj : Stop pt l j) : grow pt i l = grow pt j l := by
  rcases Nat.le_total i j with h | h
  · obtain ⟨d, rfl⟩ := Nat.exists_eq_add_of_le h
    exact (stop_up hi d).symm
  · obtain ⟨d, rfl⟩ := Nat.exists_eq_add_of_le h
    exact stop_up hj d
/-- a set of tails that holds the empty one and is closed, each step of it stopping: nothing is endless -/
theorem closed_ok {n : Nat} (h : Tailed pt n) (P : W → Prop) (h0 : P []) (hs : ∀ s b, P s → ∃ k, Stop pt (s ++ [b]) k ∧ P (tailW (grow pt k (s ++ [b])) n)) : ¬ Endless pt := by
  have inv : ∀ l, Enc pt l → P (tailW l n) := by
    intro l e
    induction e with
    | nil =>
      have z : tailW [] n = [] := by unfold tailW; simp
      rw [z]
      exact h0
    | next e hk ih =>
      rename_i l b k
      obtain ⟨k', h1, h2⟩ := hs _ b ih
      have e1 : tailW (l ++ [b]) n = tailW (tailW l n ++ [b]) n := tailW_app l [b] n
      have h3 : Stop pt (tailW l n ++ [b]) k := (stop_tail h e1 k).mp hk
      rw [stop_same h1 h3] at h2
      rw [grow_tail h e1 k]
      exact h2
  rintro ⟨l, b, e, hn⟩
  obtain ⟨k, h1, _⟩ := hs _ b (inv l e)
  have e1 : tailW (l ++ [b]) n = tailW (tailW l n ++ [b]) n := tailW_app l [b] n
  exact hn k ((stop_tail h e1 k).mpr h1)
/-- tails that lines really have -/
def Has (pt : W → Option Bool) (n : Nat) (s : W) : Prop := ∃ l, Enc pt l ∧ tailW l n = s
theorem has_nil {n : Nat} : Has pt n [] := ⟨[], .nil, by unfold tailW; simp⟩
theorem has_next {n : Nat} (h : Tailed pt n) {s : W} {b : Bool} {k : Nat} (hs : Has pt n s) (hk : Stop pt (s ++ [b]) k) : Has pt n (tailW (grow pt k (s ++ [b])) n) := by
  obtain ⟨l, e, rfl⟩ := hs
  have e1 : tailW (l ++ [b]) n = tailW (tailW l n ++ [b]) n := tailW_app l [b] n
  exact ⟨_, .next e ((stop_tail h e1 k).mpr hk), grow_tail h e1 k⟩
theorem has_never {n : Nat} (h : Tailed pt n) {s : W} {b : Bool} (hs : Has pt n s) (hk : Never pt (s ++ [b])) : Endless pt := by
  obtain ⟨l, e, rfl⟩ := hs
  have e1 : tailW (l ++ [b]) n = tailW (tailW l n ++ [b]) n := tailW_app l [b] n
  exact ⟨l, b, e, (never_tail h e1).mpr hk⟩
end
/-! ### the program -/
theorem tailed_st {st : St'} {n : Nat} (h : ∀ s ∈ st, s.1.length ≤ n) : Tailed (putW st) n := by
  intro l
  unfold putW
  congr 1
  induction st with
  | nil => rfl
  | cons a r ih =>
    rw [List.find?_cons, List.find?_cons, ends_tail l a.1 (h a (List.mem_cons_self ..)), ih fun s hs => h s (List.mem_cons_of_mem _ hs)]
theorem tailed_lon (st : St') : Tailed (putW st) (lonW st) := tailed_st fun s hs => lonW_ge hs
structure PutInv (st : St') (line : W) (known : List W) (found : W) : Prop where
  line_ : line ++ found = grow (putW st) found.length line
  no : ∀ j, j < found.length → ¬ Stop (putW st) line j
  len : known.length = found.length
  kn : ∀ w ∈ known, ∃ i, i < found.length ∧ w = tailW (grow (putW st) i line) (lonW st)
  nd : known.Nodup
theorem putInF_ok {st : St'} {line : W} : ∀ {m : Nat} {known : List W} {found : W}, PutInv st line known found → m + known.length = 2 ^ (lonW st + 1) →
    (putInF st m known line found = none → Never (putW st) line) ∧ ∀ more, putInF st m known line found = some more → ∃ k, Stop (putW st) line k ∧ line ++ more = grow (putW st) k line
  | 0, known, found, I, hm => by
    have := nodup_words (L := lonW st) I.nd fun w hw => by
      obtain ⟨i, _, rfl⟩ := I.kn w hw
      rw [tailW_len]
      omega
    omega
  | m + 1, known, found, I, hm => by
    unfold putInF
    cases e : putW st (line ++ found) with
    | none =>
      refine ⟨fun h => (by cases h), fun more h => ?_⟩
      cases h
      exact ⟨found.length, by unfold Stop; rw [← I.line_]; exact e, I.line_⟩
    | some b =>
      have hns : ¬ Stop (putW st) line found.length := by
        unfold Stop
        rw [← I.line_, e]
        exact fun h => by cases h
      dsimp only
      by_cases hk : tailW (line ++ found) (lonW st) ∈ known
      · rw [if_pos hk]
        refine ⟨fun _ => ?_, fun more h => by cases h⟩
        obtain ⟨i, hi, ht⟩ := I.kn _ hk
        rw [I.line_] at ht
        exact never_of (tailed_lon st) hi ht.symm fun m hm => I.no m hm
      · rw [if_neg hk]
        refine putInF_ok ⟨?_, fun j hj => ?_, ?_, fun w hw => ?_, nodup_snoc I.nd hk⟩ (by rw [List.length_append, List.length_singleton]; omega)
        · rw [List.length_append, List.length_singleton]
          show _ = step1 (putW st) (grow (putW st) found.length line)
          rw [← I.line_]
          unfold step1
          rw [e]
          dsimp only
          rw [List.append_assoc]
        · rw [List.length_append, List.length_singleton] at hj
          by_cases q : j < found.length
          · exact I.no j q
          · have : j = found.length := by omega
            rw [this]
            exact hns
        · rw [List.length_append, List.length_append, I.len]
          rfl
        · rw [List.length_append, List.length_singleton]
          rcases List.mem_append.mp hw with hw | hw
          · obtain ⟨i, h1, h2⟩ := I.kn w hw
            exact ⟨i, by omega, h2⟩
          · rw [List.mem_singleton.mp hw]
            exact ⟨found.length, by omega, by rw [I.line_]⟩
theorem putInv0 (st : St') (line : W) : PutInv st line [] [] := ⟨by rw [List.append_nil]; rfl, fun j hj => absurd hj (Nat.not_lt_zero _), rfl, fun w hw => absurd hw List.not_mem_nil, List.nodup_nil⟩
theorem putIn_none {st : St'} {line : W} (h : putIn st line = none) : Never (putW st) line := (putInF_ok (putInv0 st line) rfl).1 h
theorem putIn_some {st : St'} {line more : W} (h : putIn st line = some more) : ∃ k, Stop (putW st) line k ∧ line ++ more = grow (putW st) k line := (putInF_ok (putInv0 st line) rfl).2 more h
/-- the list of the search: real tails, and those ahead of i have their steps in it -/
structure EndInv (st : St') (wl : List W) (i : Nat) : Prop where
  nd : wl.Nodup
  ln : ∀ w ∈ wl, w.length ≤ lonW st
  has : ∀ w ∈ wl, Has (putW st) (lonW st) w
  nil : [] ∈ wl
  done : ∀ j w, j < i → wl[j]? = some w → ∀ b, ∃ k, Stop (putW st) (w ++ [b]) k ∧ tailW (grow (putW st) k (w ++ [b])) (lonW st) ∈ wl
  le : i ≤ wl.length
theorem endStep_ok {st : St'} {wl : List W} {here : W} {b : Bool} (nd : wl.Nodup) (ln : ∀ w ∈ wl, w.length ≤ lonW st) (has : ∀ w ∈ wl, Has (putW st) (lonW st) w) (hh : here ∈ wl) :
    (endStep st wl here b = none → Endless (putW st)) ∧ ∀ w2, endStep st wl here b = some w2 → w2.Nodup ∧ (∀ w ∈ w2, w.length ≤ lonW st) ∧ (∀ w ∈ w2, Has (putW st) (lonW st) w) ∧ (∃ k, Stop (putW st) (here ++ [b]) k ∧ tailW (grow (putW st) k (here ++ [b])) (lonW st) ∈ w2) ∧ ∃ r, w2 = wl ++ r := by
  unfold endStep
  cases e : putIn st (here ++ [b]) with
  | none => exact ⟨fun _ => has_never (tailed_lon st) (has here hh) (putIn_none e), fun w2 h => by cases h⟩
  | some more =>
    obtain ⟨k, h1, h2⟩ := putIn_some e
    refine ⟨fun h => (by cases h), fun w2 h => ?_⟩
    have h3 := has_next (tailed_lon st) (has here hh) h1
    dsimp only at h
    rw [h2] at h
    by_cases hm : tailW (grow (putW st) k (here ++ [b])) (lonW st) ∈ wl
    · rw [if_pos hm] at h
      cases h
      exact ⟨nd, ln, has, ⟨k, h1, hm⟩, [], by rw [List.append_nil]⟩
    · rw [if_neg hm] at h
      cases h
      refine ⟨nodup_snoc nd hm, fun w hw => ?_, fun w hw => ?_, ⟨k, h1, List.mem_append_right _ List.mem_cons_self⟩, _, rfl⟩
      · rcases List.mem_append.mp hw with hw | hw
        · exact ln w hw
        · rw [List.mem_singleton.mp hw, tailW_len]
          omega
      · rcases List.mem_append.mp hw with hw | hw
        · exact has w hw
        · rw [List.mem_singleton.mp hw]
          exact h3
theorem endsF_ok {st : St'} : ∀ {m : Nat} {wl : List W} {i : Nat}, EndInv st wl i → m + i = 2 ^ (lonW st + 1) → (endsF st m wl i = true ↔ Endless (putW st))
  | 0, wl, i, I, hm => by
    have := nodup_words I.nd I.ln
    have := I.le
    omega
  | m + 1, wl, i, I, hm => by
    unfold endsF
    cases e : wl[i]? with
    | none =>
      dsimp only
      refine ⟨fun h => (by cases h), fun h => ?_⟩
      refine absurd h (closed_ok (tailed_lon st) (fun w => w ∈ wl) I.nil fun s b hs => ?_)
      obtain ⟨j, hj⟩ := List.mem_iff_getElem?.mp hs
      have hjl := (List.getElem?_eq_some_iff.mp hj).1
      have := List.getElem?_eq_none_iff.mp e
      exact I.done j s (by omega) hj b
    | some here =>
      dsimp only
      have hh : here ∈ wl := List.mem_of_getElem? e
      have h0 := endStep_ok (b := false) I.nd I.ln I.has hh
      cases e0 : endStep st wl here false with
      | none => exact ⟨fun _ => h0.1 e0, fun _ => rfl⟩
      | some w1 =>
        dsimp only
        obtain ⟨nd1, ln1, has1, st1, r1, rfl⟩ := h0.2 w1 e0
        have h1 := endStep_ok (b := true) nd1 ln1 has1 (List.mem_append_left _ hh)
        cases e1 : endStep st (wl ++ r1) here true with
        | none => exact ⟨fun _ => h1.1 e1, fun _ => rfl⟩
        | some w2 =>
          dsimp only
          obtain ⟨nd2, ln2, has2, st2, r2, rfl⟩ := h1.2 w2 e1
          have hil := (List.getElem?_eq_some_iff.mp e).1
          refine endsF_ok ⟨nd2, ln2, has2, List.mem_append_left _ (List.mem_append_left _ I.nil), fun j w hj hw b => ?_, by rw [List.length_append, List.length_append]; omega⟩ (by omega)
          by_cases hji : j < i
          · have hjl : j < wl.length := by omega
            rw [List.append_assoc, List.getElem?_append_left hjl] at hw
            obtain ⟨k, k1, k2⟩ := I.done j w hji hw b
            exact ⟨k, k1, List.mem_append_left _ (List.mem_append_left _ k2)⟩
          · have : j = i := by omega
            subst this
            rw [List.append_assoc, List.getElem?_append_left hil, e] at hw
            cases hw
            cases b with
            | false =>
              obtain ⟨k, k1, k2⟩ := st1
              exact ⟨k, k1, List.mem_append_left _ k2⟩
            | true => exact st2
theorem isEndless_iff (st : St') : isEndless st = true ↔ Endless (putW st) :=
  endsF_ok ⟨by decide, fun w hw => by rw [List.mem_singleton.mp hw]; exact Nat.zero_le _, fun w hw => by rw [List.mem_singleton.mp hw]; exact has_nil, List.mem_cons_self, fun j w hj => absurd hj (Nat.not_lt_zero _), Nat.zero_le _⟩ rfl
end Fl

namespace Fl
open PySem L2
/-! ### the law's own search -/
def lawStep (st : St') (known waiting : List W) (behind : W) (b : Bool) : Option (List W × List W) :=
  if behind.length + 20 < (grow (putW st) 24 (behind ++ [b])).length then none
  else if tailW (grow (putW st) 24 (behind ++ [b])) 5 ∈ known then some (known, waiting)
  else some (known ++ [tailW (grow (putW st) 24 (behind ++ [b])) 5], waiting ++ [tailW (grow (putW st) 24 (behind ++ [b])) 5])
def lawWalk (st : St') : Nat → List W → List W → Bool
  | 0, _, _ => true
  | m + 1, known, waiting => match waiting.getLast? with
    | none => true
    | some behind => match lawStep st known waiting.dropLast behind false with
      | none => false
      | some (k1, w1) => match lawStep st k1 w1 behind true with
        | none => false
        | some (k2, w2) => lawWalk st m k2 w2
def lawRule (st : St') : Bool := parted st && lawWalk st 64 [[]] [[]]
structure LawInv (st : St') (known waiting D : List W) : Prop where
  pm : (D ++ waiting).Perm known
  nd : known.Nodup
  ln : ∀ w ∈ known, w.length ≤ 5
  has : ∀ w ∈ known, Has (putW st) 5 w
  nil : [] ∈ known
  done : ∀ w ∈ D, ∀ b, ∃ k, Stop (putW st) (w ++ [b]) k ∧ tailW (grow (putW st) k (w ++ [b])) 5 ∈ known
theorem law_stop {st : St'} (hl : ∀ s ∈ st, s.1.length ≤ 4) {w : W} {b : Bool} : (w.length + 20 < (grow (putW st) 24 (w ++ [b])).length → Never (putW st) (w ++ [b])) ∧ (¬ w.length + 20 < (grow (putW st) 24 (w ++ [b])).length → Stop (putW st) (w ++ [b]) 24) := by
  by_cases h : Stop (putW st) (w ++ [b]) 24
  · refine ⟨fun hh => ?_, fun _ => h⟩
    obtain ⟨k, h1, h2, h3⟩ := first_stop h
    have h4 := soon (n := 4) (tailed_st hl) h2 h3 (by rw [List.length_append, List.length_singleton]; omega) (by decide)
    obtain ⟨d, hd⟩ := Nat.exists_eq_add_of_le h1
    rw [hd, stop_up h2 d, grow_len h3, List.length_append, List.length_singleton] at hh
    have e : 2 ^ 4 + (4 - 1) = 19 := by decide
    omega
  · have hno : ∀ j, j < 24 → ¬ Stop (putW st) (w ++ [b]) j := fun j hj hs => h (stop_more hs (by omega))
    refine ⟨fun _ k hk => ?_, fun hh => ?_⟩
    · obtain ⟨k0, h1, h2, h3⟩ := first_stop hk
      have h4 := soon (n := 4) (tailed_st hl) h2 h3 (by rw [List.length_append, List.length_singleton]; omega) (by decide)
      have e : 2 ^ 4 + (4 - 1) = 19 := by decide
      exact hno k0 (by omega) h2
    · rw [grow_len hno, List.length_append, List.length_singleton] at hh
      omega
theorem lawStep_ok {st : St'} (hl : ∀ s ∈ st, s.1.length ≤ 4) {known waiting : List W} {behind : W} {b : Bool} (nd : known.Nodup) (ln : ∀ w ∈ known, w.length ≤ 5) (has : ∀ w ∈ known, Has (putW st) 5 w) (hh : behind ∈ known) :
    (lawStep st known waiting behind b = none → Endless (putW st)) ∧ ∀ k2 w2, lawStep st known waiting behind b = some (k2, w2) → k2.Nodup ∧ (∀ w ∈ k2, w.length ≤ 5) ∧ (∀ w ∈ k2, Has (putW st) 5 w) ∧ (∃ k, Stop (putW st) (behind ++ [b]) k ∧ tailW (grow (putW st) k (behind ++ [b])) 5 ∈ k2) ∧ ∃ r, k2 = known ++ r ∧ w2 = waiting ++ r := by
  have T5 : Tailed (putW st) 5 := tailed_st fun s hs => Nat.le_succ_of_le (hl s hs)
  obtain ⟨h1, h2⟩ := law_stop hl (w := behind) (b := b)
  unfold lawStep
  by_cases hc : behind.length + 20 < (grow (putW st) 24 (behind ++ [b])).length
  · rw [if_pos hc]
    exact ⟨fun _ => has_never T5 (has behind hh) (h1 hc), fun _ _ h => by cases h⟩
  · rw [if_neg hc]
    have hs := h2 hc
    have h3 := has_next T5 (has behind hh) hs
    by_cases hm : tailW (grow (putW st) 24 (behind ++ [b])) 5 ∈ known
    · rw [if_pos hm]
      refine ⟨fun h => (by cases h), fun k2 w2 h => ?_⟩
      cases h
      exact ⟨nd, ln, has, ⟨24, hs, hm⟩, [], by rw [List.append_nil], by rw [List.append_nil]⟩
    · rw [if_neg hm]
      refine ⟨fun h => (by cases h), fun k2 w2 h => ?_⟩
      cases h
      refine ⟨nodup_snoc nd hm, fun w hw => ?_, fun w hw => ?_, ⟨24, hs, List.mem_append_right _ List.mem_cons_self⟩, _, rfl, rfl⟩
      · rcases List.mem_append.mp hw with hw | hw
        · exact ln w hw
        · rw [List.mem_singleton.mp hw, tailW_len]
          omega
      · rcases List.mem_append.mp hw with hw | hw
        · exact has w hw
        · rw [List.mem_singleton.mp hw]
          exact h3
theorem lawWalk_ok {st : St'} (hl : ∀ s ∈ st, s.1.length ≤ 4) : ∀ {m : Nat} {known waiting D : List W}, LawInv st known waiting D → m + D.length = 64 → (lawWalk st m known waiting = true ↔ ¬ Endless (putW st))
  | 0, known, waiting, D, I, hm => by
    have h1 := nodup_words I.nd I.ln
    have h2 := I.pm.length_eq
    rw [List.length_append] at h2
    have e : 2 ^ (5 + 1) = 64 := by decide
    omega
  | m + 1, known, waiting, D, I, hm => by
    unfold lawWalk
    cases e : waiting.getLast? with
    | none =>
      dsimp only
      have hw : waiting = [] := List.getLast?_eq_none_iff.mp e
      refine ⟨fun _ => ?_, fun _ => rfl⟩
      have hp : ∀ w ∈ known, w ∈ D := fun w hw' => by
        have := I.pm.mem_iff.mpr hw'
        rw [hw, List.append_nil] at this
        exact this
      exact closed_ok (tailed_st fun s hs => Nat.le_succ_of_le (hl s hs)) (fun w => w ∈ known) I.nil fun s b hs => I.done s (hp s hs) b
    | some behind =>
      dsimp only
      obtain ⟨w', rfl⟩ : ∃ w', waiting = w' ++ [behind] := by
        obtain ⟨ys, rfl⟩ := List.getLast?_eq_some_iff.mp e
        exact ⟨ys, rfl⟩
      rw [List.dropLast_concat]
      have hh : behind ∈ known := I.pm.mem_iff.mp (by simp)
      have s0 := lawStep_ok (b := false) (waiting := w') hl I.nd I.ln I.has hh
      cases e0 : lawStep st known w' behind false with
      | none =>
        dsimp only
        exact ⟨fun h => (by cases h), fun h => absurd (s0.1 e0) h⟩
      | some p =>
        obtain ⟨k1, w1⟩ := p
        dsimp only
        obtain ⟨nd1, ln1, has1, st1, r1, rfl, rfl⟩ := s0.2 _ _ e0
        have s1 := lawStep_ok (b := true) (waiting := w' ++ r1) hl nd1 ln1 has1 (List.mem_append_left _ hh)
        cases e1 : lawStep st (known ++ r1) (w' ++ r1) behind true with
        | none =>
          dsimp only
          exact ⟨fun h => (by cases h), fun h => absurd (s1.1 e1) h⟩
        | some p =>
          obtain ⟨k2, w2⟩ := p
          dsimp only
          obtain ⟨nd2, ln2, has2, st2, r2, rfl, rfl⟩ := s1.2 _ _ e1
          refine lawWalk_ok hl (D := D ++ [behind]) ⟨?_, nd2, ln2, has2, List.mem_append_left _ (List.mem_append_left _ I.nil), fun w hw b => ?_⟩ (by rw [List.length_append, List.length_singleton]; omega)
          · have p1 : (D ++ [behind] ++ (w' ++ r1 ++ r2)).Perm ((D ++ (w' ++ [behind])) ++ r1 ++ r2) := by
              have q : ([behind] ++ w').Perm (w' ++ [behind]) := List.perm_append_comm
              have q2 := ((q.append_left D).append_right r1).append_right r2
              simpa [List.append_assoc] using q2
            exact p1.trans ((I.pm.append_right r1).append_right r2)
          · rcases List.mem_append.mp hw with hw | hw
            · obtain ⟨k, q1, q2⟩ := I.done w hw b
              exact ⟨k, q1, List.mem_append_left _ (List.mem_append_left _ q2)⟩
            · rw [List.mem_singleton.mp hw]
              cases b with
              | false =>
                obtain ⟨k, q1, q2⟩ := st1
                exact ⟨k, q1, List.mem_append_left _ q2⟩
              | true => exact st2
theorem lawRule_iff {st : St'} (hl : ∀ s ∈ st, s.1.length ≤ 4) : lawRule st = true ↔ parted st = true ∧ ¬ Endless (putW st) := by
  unfold lawRule
  rw [Bool.and_eq_true, lawWalk_ok hl (known := [[]]) (waiting := [[]]) (D := []) ⟨List.Perm.refl _, by decide, fun w hw => by rw [List.mem_singleton.mp hw]; exact Nat.zero_le _, fun w hw => by rw [List.mem_singleton.mp hw]; exact has_nil, List.mem_cons_self, fun w hw => absurd hw List.not_mem_nil⟩ rfl]
/-! ### the order of the stuffs is all one -/
theorem parted_uniq {st : St'} (h : parted st = true) {l : W} {s t : W × Bool} (hs : s ∈ st) (ht : t ∈ st) (h1 : endsW l s.1 = true) (h2 : endsW l t.1 = true) : s = t := by
  obtain ⟨i, hi⟩ := List.mem_iff_getElem?.mp hs
  obtain ⟨j, hj⟩ := List.mem_iff_getElem?.mp ht
  have key : ∀ (i j : Nat) (s t : W × Bool), st[i]? = some s → st[j]? = some t → i ≠ j → endsW s.1 t.1 = true → False := by
    intro i j s t hi hj hne he
    have hil := (List.getElem?_eq_some_iff.mp hi).1
    have hjl := (List.getElem?_eq_some_iff.mp hj).1
    have hc : clash st i = true := by
      unfold clash
      rw [hi]
      refine List.any_eq_true.mpr ⟨t, ?_, he⟩
      rcases Nat.lt_or_gt_of_ne hne with q | q
      · refine List.mem_append_right _ (List.mem_iff_getElem?.mpr ⟨j - (i + 1), ?_⟩)
        rw [List.getElem?_drop]
        rw [show i + 1 + (j - (i + 1)) = j by omega]
        exact hj
      · refine List.mem_append_left _ (List.mem_iff_getElem?.mpr ⟨j, ?_⟩)
        rw [List.getElem?_take_of_lt (by omega)]
        exact hj
    rw [parted_no hc] at h
    cases h
  by_cases hne : i = j
  · subst hne
    rw [hi] at hj
    exact Option.some.inj hj
  · rcases Nat.le_total t.1.length s.1.length with q | q
    · exact (key i j s t hi hj hne (ends_two h1 h2 q)).elim
    · exact (key j i t s hj hi (Ne.symm hne) (ends_two h2 h1 q)).elim
theorem putW_iff {st : St'} (hu : ∀ l s t, s ∈ st → t ∈ st → endsW l s.1 = true → endsW l t.1 = true → s = t) (l : W) (b : Bool) : putW st l = some b ↔ ∃ s ∈ st, endsW l s.1 = true ∧ s.2 = b := by
  unfold putW
  constructor
  · intro h
    cases e : st.find? (fun s => endsW l s.1) with
    | none => rw [e] at h; cases h
    | some s =>
      rw [e] at h
      exact ⟨s, List.mem_of_find?_eq_some e, List.find?_some (p := fun s : W × Bool => endsW l s.1) e, Option.some.inj h⟩
  · rintro ⟨s, hs, he, rfl⟩
    cases e : st.find? (fun s => endsW l s.1) with
    | none => exact absurd he (List.find?_eq_none.mp e s hs)
    | some t => rw [hu l t s (List.mem_of_find?_eq_some e) hs (List.find?_some (p := fun s : W × Bool => endsW l s.1) e) he]; rfl
theorem putW_perm {st st' : St'} (hp : st'.Perm st) (h : parted st = true) : putW st' = putW st := by
  have hu : ∀ l s t, s ∈ st → t ∈ st → endsW l s.1 = true → endsW l t.1 = true → s = t := fun l s t => parted_uniq h
  have hu' : ∀ l s t, s ∈ st' → t ∈ st' → endsW l s.1 = true → endsW l t.1 = true → s = t := fun l s t h1 h2 => hu l s t (hp.mem_iff.mp h1) (hp.mem_iff.mp h2)
  funext l
  apply Option.ext
  intro b
  rw [putW_iff hu, putW_iff hu']
  exact ⟨fun ⟨s, h1, h2⟩ => ⟨s, hp.mem_iff.mp h1, h2⟩, fun ⟨s, h1, h2⟩ => ⟨s, hp.mem_iff.mpr h1, h2⟩⟩
/-- the law finds an end where the program does -/
theorem law_endless {st : St'} (hl : ∀ s ∈ st, s.1.length ≤ 4) (hp : parted st = true) : isEndless (sortSt st) = !lawRule st := by
  have h1 := isEndless_iff (sortSt st)
  rw [putW_perm (sortSt_perm st) hp] at h1
  have h2 := lawRule_iff hl
  cases e : lawRule st with
  | true =>
    have := (h2.mp e).2
    cases e2 : isEndless (sortSt st) with
    | false => rfl
    | true => exact absurd (h1.mp e2) this
  | false =>
    cases e2 : isEndless (sortSt st) with
    | true => rfl
    | false =>
      have : ¬ Endless (putW st) := fun q => by rw [h1.mpr q] at e2; cases e2
      rw [h2.mpr ⟨hp, this⟩] at e
      cases e
end Fl

/-! The laws' random draws: a box of two ints; what is drawn is taken to be anything -/
namespace Fl
open PySem L2 Evl TL StX
def rAbs : List V → Hp → VK → Prop := fun xs H Q => ∃ i, xs = [.int i] ∧ Q (.int (if i < 0 then -i else i)) H
def rInt : List V → Hp → VK → Prop := fun xs H Q => (∃ i, xs = [.int i] ∧ Q (.int i) H) ∨ ∃ k, xs = [.bl k] ∧ Q (.int (if k then 1 else 0)) H
def rPowI : R2 := rI CPow fun i j => .int (i ^ j.toNat)
def rJoin (K : PySem.W.Frag) : V → List V → Hp → VK → Prop := fun x xs H Q => ∃ a p, ∃ ys : List Str, x = .str a ∧ xs = [.ref p] ∧ (SqL K H p (ys.map V.str) ∨ SqT K H p (ys.map V.str)) ∧ (ys.map (·.length)).sum + ys.length * a.length ≤ 16777216 ∧ Q (.str (Txt.join a ys)) H
section
variable {X : Cx}
theorem callAbs : CallR X (.builtin "abs") rAbs := call_abs
theorem callInt : CallR X (.type "int") rInt := call_int1
theorem opPowI : OpR X (binaryOp .Pow) rPowI := op_pow
theorem mtJoin : MtR X "str.join" (rJoin X.K) := mt_join
end
/-- the heap without the box -/
def hole (b : Addr) (H : Hp) : Hp := fun a => if a = b then none else H a
def BoxAt (H : Hp) (b : Addr) : Prop := ∃ x y : Int, H b = some (.lst [.int x, .int y]) ∧ 0 ≤ x ∧ 1 ≤ y ∧ y ≤ 2147483629
section
variable {K : PySem.W.Frag} {A : Ad} {σ : L2.St} {H H' H1 H2 : Hp} {ta te tb : TE} {tr : TA} {vs : List V} {D : Ends} {v : V} {tz : TS} {b : Addr}
theorem hole_ex : Ex (hole b H) H := fun a o h => by
  unfold hole at h
  split at h
  · cases h
  · exact h
theorem hole_self : hole b H b = none := if_pos rfl
theorem hole_ne {a : Addr} (h : a ≠ b) : hole b H a = H a := if_neg h
theorem hole_hole : Ex (hole b H) H' ↔ Ex (hole b H) (hole b H') := by
  constructor
  · intro e a o h
    have hne : a ≠ b := by
      rintro rfl
      rw [hole_self] at h
      cases h
    rw [hole_ne hne]
    exact e a o h
  · intro e
    exact e.trans hole_ex
theorem hole_mono (e : Ex H H') : Ex (hole b H) (hole b H') := hole_hole.mp (hole_ex.trans e)
theorem hole_trans (e : Ex (hole b H) H1) (e2 : Ex (hole b H1) H2) : Ex (hole b H) H2 := (hole_hole.mp e).trans e2
theorem hole_upd {o : HO} : Ex (hole b H) (upd H b o) := fun a o' h => by
  have hne : a ≠ b := by
    rintro rfl
    rw [hole_self] at h
    cases h
  rw [hole_ne hne] at h
  rw [upd_ne hne]
  exact h
/-- a new object is not the box -/
theorem hole_new {p : Addr} {o : HO} (hp : H p = none) : Ex (hole b H) (upd H p o) := hole_ex.trans (Ex.new hp)
theorem BoxAt.mono (h : BoxAt H b) (e : Ex H H') : BoxAt H' b := by
  obtain ⟨x, y, h1, h2⟩ := h
  exact ⟨x, y, e _ _ h1, h2⟩
theorem BoxAt.ne {p : Addr} (h : BoxAt H b) (hp : H p = none) : p ≠ b := by
  rintro rfl
  obtain ⟨x, y, h1, _⟩ := h
  rw [h1] at hp
  cases hp
/-- with draws: what comes out satisfies P -/
def EvB (b : Addr) (te : TE) (σ : L2.St) (H : Hp) (P : V → Hp → Prop) : Prop := ∀ H1, Ex (hole b H) H1 → BoxAt H1 b → ∀ Q : VK, (∀ v H2, Ex (hole b H1) H2 → BoxAt H2 b → P v H2 → Q v H2) → te σ H1 Q
theorem EvB.mono {P : V → Hp → Prop} (h : EvB b te σ H P) (e : Ex (hole b H) H') : EvB b te σ H' P := fun H1 e1 => h H1 (hole_trans e e1)
/-- ints -/
theorem ev_absI {i : Int} (ha : Ev ta σ H (.int i)) : Ev (tCB rAbs (tCons ta tNil)) σ H (.int (if i < 0 then -i else i)) := fun H1 e Q q => ha H1 e _ fun H2 e2 => ⟨i, rfl, q H2 e2⟩
theorem ev_intI {i : Int} (ha : Ev ta σ H (.int i)) : Ev (tCB rInt (tCons ta tNil)) σ H (.int i) := fun H1 e Q q => ha H1 e _ fun H2 e2 => .inl ⟨i, rfl, q H2 e2⟩
theorem ev_mulI {i j : Int} (ha : Ev ta σ H (.int i)) (hb : Ev tb σ H (.int j)) (h : CMul i j) : Ev (tOp rMulI ta tb) σ H (.int (i * j)) := fun H1 e Q q =>
  ha H1 e _ fun H2 e2 => hb H2 (e.trans e2) _ fun H3 e3 => ⟨i, j, rfl, rfl, h, q H3 (e2.trans e3)⟩
theorem ev_modI {i j : Int} (ha : Ev ta σ H (.int i)) (hb : Ev tb σ H (.int j)) (h : 0 < j) : Ev (tOp rModI ta tb) σ H (.int (i % j)) := fun H1 e Q q =>
  ha H1 e _ fun H2 e2 => hb H2 (e.trans e2) _ fun H3 e3 => ⟨i, j, rfl, rfl, h, q H3 (e2.trans e3)⟩
theorem ev_fdvI {i j : Int} (ha : Ev ta σ H (.int i)) (hb : Ev tb σ H (.int j)) (h : CDiv i j) : Ev (tOp rFdvI ta tb) σ H (.int (i / j)) := fun H1 e Q q =>
  ha H1 e _ fun H2 e2 => hb H2 (e.trans e2) _ fun H3 e3 => ⟨i, j, rfl, rfl, h, q H3 (e2.trans e3)⟩
theorem ev_powI {i j : Int} (ha : Ev ta σ H (.int i)) (hb : Ev tb σ H (.int j)) (h : CPow i j) : Ev (tOp rPowI ta tb) σ H (.int (i ^ j.toNat)) := fun H1 e Q q =>
  ha H1 e _ fun H2 e2 => hb H2 (e.trans e2) _ fun H3 e3 => ⟨i, j, rfl, rfl, h, q H3 (e2.trans e3)⟩
theorem cmul_l {i j : Int} (h1 : 0 ≤ i) (h2 : i ≤ 4294967296) : CMul i j := .inl ⟨by omega, by omega⟩
theorem cmul_r {i j : Int} (h1 : 0 ≤ j) (h2 : j ≤ 4294967296) : CMul i j := .inr ⟨by omega, by omega⟩
/-! ### _law_seed -/
def sp__law_seed (K : PySem.W.Frag) (A : Ad) : Sp := fun vs H Q _ => ∃ (a : Addr) (ns : List Int) (k : Nat), vs = [.ref a, .int (k : Int)] ∧ SqL K H a (ns.map V.int) ∧ ns.length ≤ 63 ∧ k ≤ 100 ∧ ∀ b H2, H b = none → Ex H H2 → BoxAt H2 b → Q (.ref b) H2
def t__law_seed (K : PySem.W.Frag) (A : Ad) : TS :=
  (tSeq (tAsg (tOp rAddI (tOp rMulI (tC (.int 9431)) (tVar 1)) (tC (.int 103))) (gName 2))
    (tSeq (tIfS (tTest (tOp rLtI (tVar 1) (tCB (rLenS K) (tCons (tVar 0) tNil)))) (tAsg (tCB rAbs (tCons (tOp (rIxL K) (tVar 0) (tVar 1)) tNil)) (gName 2)) (tIfS (tTest (tOp rGtI (tCB (rLenS K) (tCons (tVar 0) tNil)) (tC (.int 0)))) (tAsg (tOp rAddI (tVar 2) (tOp rMulI (tOp rModI (tCB rInt (tCons (tCB rAbs (tCons (tOp (rIxL K) (tVar 0) (tOp rModI (tCB rInt (tCons (tVar 1) tNil)) (tCB (rLenS K) (tCons (tVar 0) tNil)))) tNil)) tNil)) (tC (.int 2147483629))) (tC (.int 40093)))) (gName 2)) tNext))
    (tRet (tLst (tCons (tIf (tTest (tOp rGeI (tVar 2) (tOp rPowI (tC (.int 10)) (tC (.int 18))))) (tVar 2) (tC (.int 0))) (tCons (tOp rAddI (tOp rModI (tCB rInt (tCons (tOp rAddI (tOp rMulI (tOp rModI (tCB rInt (tCons (tVar 2) tNil)) (tC (.int 2147483629))) (tC (.int 48271))) (tOp rMulI (tC (.int 39019)) (tVar 1))) tNil)) (tC (.int 2147483629))) (tC (.int 1))) tNil))))))
theorem at_int {ns : List Int} {j : Nat} (h : j < ns.length) : ∃ z, atI (ns.map V.int) (j : Int) = some (V.int z) := by
  refine ⟨ns[j], atI_nat' ?_⟩
  rw [List.getElem?_map]
  simp [h]
theorem pure__law_seed (T : Tx K A) (vs : List V) (H : Hp) (Q : VK) (E : XK) (h : sp__law_seed K A vs H Q E) : t__law_seed K A { nx := fun _ H' => Q .non H', rt := Q } (start ["_law_script", "_law_k", "_law_cell"] vs) H := by
  obtain ⟨a, ns, k, rfl, hS, hl, hk, kq⟩ := h
  have hlen : (ns.map V.int).length = ns.length := List.length_map ..
  have lenE : ∀ c H', Ex H H' → Ev (tCB (rLenS K) (tCons (tVar 0) tNil)) [some (.ref a), some (.int (k : Int)), c] H' (.int (ns.length : Int)) := fun c H' e => ev_is (ev_lenSL (ev_var rfl) (ex_l e hS)) (by rw [hlen])
  refine q_asg (v := .int (9431 * (k : Int) + 103)) (ev_addI (ev_mulI ev_c (ev_var rfl) (cmul_l (by decide) (by decide))) ev_c) fun H1 e1 => ?_
  -- behind the if a cell stands, not negative
  have rest : ∀ (c : Int) (H2 : Hp), 0 ≤ c → Ex H H2 → (tRet (tLst (tCons (tIf (tTest (tOp rGeI (tVar 2) (tOp rPowI (tC (.int 10)) (tC (.int 18))))) (tVar 2) (tC (.int 0))) (tCons (tOp rAddI (tOp rModI (tCB rInt (tCons (tOp rAddI (tOp rMulI (tOp rModI (tCB rInt (tCons (tVar 2) tNil)) (tC (.int 2147483629))) (tC (.int 48271))) (tOp rMulI (tC (.int 39019)) (tVar 1))) tNil)) (tC (.int 2147483629))) (tC (.int 1))) tNil)))) { nx := fun _ H' => Q .non H', rt := Q } [some (.ref a), some (.int (k : Int)), some (.int c)] H2 := by
    intro c H2 hc e2
    refine s_retL (xs := [.int (if decide (((10 : Int) ^ (18 : Int).toNat) ≤ c) = true then c else 0), .int ((c % 2147483629 * 48271 + 39019 * (k : Int)) % 2147483629 + 1)]) (el_lst (ea_cons ?_ (ea_cons (ev_addI (ev_modI (ev_intI (ev_addI (ev_mulI (ev_modI (ev_intI (ev_var rfl)) ev_c (by decide)) ev_c (cmul_r (by decide) (by decide))) (ev_mulI ev_c (ev_var rfl) (cmul_l (by decide) (by decide))))) ev_c (by decide)) ev_c) ea_nil)) (by show 2 ≤ 100000; decide)) fun p H3 hp e3 h3 => ?_
    · refine ev_if (et_test (ev_geI (ev_var rfl) (ev_powI ev_c ev_c ⟨by decide, by decide, by decide⟩))) (fun hb => ev_is (ev_var rfl) (by rw [if_pos hb])) (fun hb => ev_is ev_c (by rw [if_neg (by rw [hb]; exact Bool.false_ne_true)]))
    · refine kq p H3 (fresh_back e2 hp) (e2.trans e3) ⟨_, _, h3, ?_, ?_, ?_⟩
      · split <;> omega
      · have := Int.emod_nonneg (c % 2147483629 * 48271 + 39019 * (k : Int)) (show (2147483629 : Int) ≠ 0 by decide)
        omega
      · have := Int.emod_lt_of_pos (c % 2147483629 * 48271 + 39019 * (k : Int)) (show (0 : Int) < 2147483629 by decide)
        omega
  refine q_if (et_test (ev_ltI (i := (k : Int)) (ev_var rfl) (lenE (some (.int (9431 * (k : Int) + 103))) _ e1))) (fun hb H2 e2 => ?_) (fun hb H2 e2 => ?_)
  · have hlt : k < ns.length := by have := of_decide_eq_true hb; omega
    obtain ⟨z, hz⟩ := at_int hlt
    refine s_asg (v := .int (if z < 0 then -z else z)) (ev_absI (ev_ixL (ev_var rfl) (ev_var rfl) (ex_l (e1.trans e2) hS) hz)) fun H3 e3 => ?_
    exact rest _ H3 (by split <;> omega) ((e1.trans e2).trans e3)
  · refine s_when (et_test (ev_gtI (lenE _ _ (e1.trans e2)) ev_c)) (fun hb2 H3 e3 => ?_) (fun hb2 H3 e3 => ?_)
    · have hpos : 0 < ns.length := by have := of_decide_eq_true hb2; omega
      have hmod : ((k : Int) % (ns.length : Int)) = ((k % ns.length : Nat) : Int) := by omega
      obtain ⟨z, hz⟩ := at_int (ns := ns) (Nat.mod_lt k hpos)
      rw [← hmod] at hz
      have ex3 := (e1.trans e2).trans e3
      refine s_asg (v := .int ((9431 * (k : Int) + 103) + (if z < 0 then -z else z) % 2147483629 * 40093)) (ev_addI (ev_var rfl) (ev_mulI (ev_modI (ev_intI (ev_absI (ev_ixL (ev_var rfl) (ev_modI (ev_intI (ev_var rfl)) (lenE _ _ ex3) (by omega)) (ex_l ex3 hS) hz))) ev_c (by decide)) ev_c (cmul_r (by decide) (by decide)))) fun H4 e4 => ?_
      refine rest _ H4 ?_ (ex3.trans e4)
      have := Int.emod_nonneg (if z < 0 then -z else z) (show (2147483629 : Int) ≠ 0 by decide)
      omega
    · exact rest _ H3 (by omega) ((e1.trans e2).trans e3)
theorem len__law_seed : ∀ vs H Q E, sp__law_seed K A vs H Q E → vs.length = 2 := by
  rintro vs H Q E ⟨a, ns, k, rfl, _⟩
  rfl
/-! ### _law_choose -/
def sp__law_choose (K : PySem.W.Frag) (A : Ad) : Sp := fun vs H Q _ => ∃ (b : Addr) (m : Int), vs = [.ref b, .int m] ∧ BoxAt H b ∧ 1 ≤ m ∧ m < 1000000 ∧ ∀ (r : Nat) H2, (r : Int) < m → Ex (hole b H) H2 → BoxAt H2 b → Q (.int (r : Int)) H2
def t__law_choose (K : PySem.W.Frag) (A : Ad) : TS :=
  (tSeq (tIfS (tTest (tOp rGtI (tOp (rIxL K) (tVar 0) (tC (.int 0))) (tC (.int 0)))) (tSeq (tAsg (tOp rModI (tCB rInt (tCons (tOp (rIxL K) (tVar 0) (tC (.int 0))) tNil)) (tVar 1)) (gName 2))
    (tSeq (tAsg (tOp rFdvI (tOp (rIxL K) (tVar 0) (tC (.int 0))) (tVar 1)) (gSub (tVar 0) (tC (.int 0)) rSetL))
    (tRet (tVar 2)))) tNext)
    (tSeq (tAsg (tOp rModI (tCB rInt (tCons (tOp rAddI (tOp rMulI (tOp (rIxL K) (tVar 0) (tC (.int 1))) (tC (.int 40014))) (tC (.int 73))) tNil)) (tC (.int 2147483563))) (gName 3))
    (tSeq (tAsg (tOp rAddI (tOp rModI (tCB rInt (tCons (tOp rAddI (tOp rMulI (tVar 3) (tC (.int 40692))) (tC (.int 4703))) tNil)) (tC (.int 2147483629))) (tC (.int 1))) (gSub (tVar 0) (tC (.int 1)) rSetL))
    (tRet (tOp rModI (tCB rInt (tCons (tOp rFdvI (tOp rAddI (tOp rMulI (tVar 3) (tC (.int 2147483647))) (tOp (rIxL K) (tVar 0) (tC (.int 1)))) (tC (.int 8191))) tNil)) (tVar 1))))))
theorem nat_of {i : Int} (h : 0 ≤ i) : ∃ n : Nat, i = (n : Int) := ⟨i.toNat, by omega⟩
theorem pure__law_choose (T : Tx K A) (vs : List V) (H : Hp) (Q : VK) (E : XK) (h : sp__law_choose K A vs H Q E) : t__law_choose K A { nx := fun _ H' => Q .non H', rt := Q } (start ["_law_box", "_law_many", "_law_digit", "_law_raw"] vs) H := by
  obtain ⟨b, m, rfl, ⟨x, y, hb, hx, hy1, hy2⟩, hm1, hm2, k⟩ := h
  have ix0 : ∀ {σ' : L2.St} {H' : Hp} {z w : Int}, σ'[0]? = some (some (.ref b)) → H' b = some (.lst [.int z, .int w]) → Ev (tOp (rIxL K) (tVar 0) (tC (.int 0))) σ' H' (.int z) := fun h1 h2 => ev_ixL (ev_var h1) ev_c (sq_of h2) rfl
  have ix1 : ∀ {σ' : L2.St} {H' : Hp} {z w : Int}, σ'[0]? = some (some (.ref b)) → H' b = some (.lst [.int z, .int w]) → Ev (tOp (rIxL K) (tVar 0) (tC (.int 1))) σ' H' (.int w) := fun h1 h2 => ev_ixL (ev_var h1) ev_c (sq_of h2) rfl
  refine q_when (et_test (ev_gtI (ix0 rfl hb) ev_c)) (fun hc H1 e1 => ?_) (fun hc H1 e1 => ?_)
  · have hb1 := e1 _ _ hb
    refine q_asg (v := .int (x % m)) (ev_modI (ev_intI (ix0 rfl hb1)) (ev_var rfl) (by omega)) fun H2 e2 => ?_
    have hb2 := e2 _ _ hb1
    refine q_setL (j := 0) (xs := [.int x, .int y]) (v := .int (x / m)) hb2 (ev_fdvI (ix0 rfl hb2) (ev_var rfl) ⟨by omega, by omega⟩) (ev_var rfl) ev_c (by show 0 < 2; decide) fun H3 e3 => ?_
    obtain ⟨r, hr⟩ := nat_of (Int.emod_nonneg x (show m ≠ 0 by omega))
    refine s_ret (v := .int (x % m)) (ev_var rfl) fun H4 e4 => ?_
    rw [hr]
    refine k r H4 ?_ ?_ ?_
    · rw [← hr]
      exact Int.emod_lt_of_pos x (by omega)
    · exact ((hole_trans (hole_ex.trans ((e1.trans e2).trans e3)) hole_upd)).trans e4
    · exact ⟨x / m, y, e4 _ _ upd_same, Int.ediv_nonneg hx (by omega), hy1, hy2⟩
  · have hb1 := e1 _ _ hb
    refine q_asg (v := .int ((y * 40014 + 73) % 2147483563)) (ev_modI (ev_intI (ev_addI (ev_mulI (ix1 rfl hb1) ev_c (cmul_r (by decide) (by decide))) ev_c)) ev_c (by decide)) fun H2 e2 => ?_
    have hb2 := e2 _ _ hb1
    have h1 := Int.emod_nonneg (y * 40014 + 73) (show (2147483563 : Int) ≠ 0 by decide)
    have h2 := Int.emod_lt_of_pos (y * 40014 + 73) (show (0 : Int) < 2147483563 by decide)
    refine q_setL (j := 1) (xs := [.int x, .int y]) (v := .int (((y * 40014 + 73) % 2147483563 * 40692 + 4703) % 2147483629 + 1)) hb2 (ev_addI (ev_modI (ev_intI (ev_addI (ev_mulI (ev_var rfl) ev_c (cmul_r (by decide) (by decide))) ev_c)) ev_c (by decide)) ev_c) (ev_var rfl) ev_c (by show 1 < 2; decide) fun H3 e3 => ?_
    have h3 := Int.emod_nonneg ((y * 40014 + 73) % 2147483563 * 40692 + 4703) (show (2147483629 : Int) ≠ 0 by decide)
    have h4 := Int.emod_lt_of_pos ((y * 40014 + 73) % 2147483563 * 40692 + 4703) (show (0 : Int) < 2147483629 by decide)
    generalize hy' : ((y * 40014 + 73) % 2147483563 * 40692 + 4703) % 2147483629 + 1 = y'
    obtain ⟨r, hr⟩ := nat_of (Int.emod_nonneg (((y * 40014 + 73) % 2147483563 * 2147483647 + y') / 8191) (show m ≠ 0 by omega))
    refine s_ret (v := .int ((((y * 40014 + 73) % 2147483563 * 2147483647 + y') / 8191) % m)) (ev_modI (ev_intI (ev_fdvI (ev_addI (ev_mulI (ev_var rfl) ev_c (cmul_r (by decide) (by decide))) (ix1 (z := x) (w := y') rfl upd_same)) ev_c ⟨by decide, by decide⟩)) (ev_var rfl) (by omega)) fun H4 e4 => ?_
    rw [hr]
    refine k r H4 ?_ ?_ ?_
    · rw [← hr]
      exact Int.emod_lt_of_pos _ (by omega)
    · exact ((hole_trans (hole_ex.trans ((e1.trans e2).trans e3)) hole_upd)).trans e4
    · exact ⟨x, y', e4 _ _ upd_same, hx, by omega, by omega⟩
theorem len__law_choose : ∀ vs H Q E, sp__law_choose K A vs H Q E → vs.length = 2 := by
  rintro vs H Q E ⟨b, m, rfl, _⟩
  rfl
/-- a draw -/
theorem eb_choose {E : XK} {m : Int} (h : EvA tr σ (hole b H) [.ref b, .int m]) (h1 : 1 ≤ m) (h2 : m < 1000000) : EvB b (tCall (sp__law_choose K A) [] E tr) σ H (fun v _ => ∃ r : Nat, (r : Int) < m ∧ v = .int (r : Int)) := fun H1 e B Q q =>
  h H1 e _ fun H2 e2 => ⟨b, m, rfl, B.mono e2, h1, h2, fun r H3 hr e3 B3 => q _ H3 (hole_trans (hole_ex.trans e2) e3) B3 ⟨r, hr, rfl⟩⟩
/-! ### _law_one_of -/
def sp__law_one_of (K : PySem.W.Frag) (A : Ad) : Sp := fun vs H Q _ => ∃ (b l : Addr) (xs : List V), vs = [.ref b, .ref l] ∧ BoxAt H b ∧ SqQ K (hole b H) l xs ∧ 0 < xs.length ∧ xs.length ≤ 1000 ∧ ∀ (r : Nat) x H2, xs[r]? = some x → Ex (hole b H) H2 → BoxAt H2 b → Q x H2
def t__law_one_of (K : PySem.W.Frag) (A : Ad) : TS :=
  (tRet (tOp (rIx K) (tVar 1) (tCall (sp__law_choose K A) [] E0 (tCons (tVar 0) (tCons (tCB (rLenS K) (tCons (tVar 1) tNil)) tNil)))))
theorem ev_ixQ {p : Addr} {xs : List V} {i : Int} (ha : Ev ta σ H (.ref p)) (hb : Ev tb σ H (.int i)) (h : SqQ K H p xs) (hv : atI xs i = some v) : Ev (tOp (rIx K) ta tb) σ H v := fun H1 e Q q =>
  ha H1 e _ fun H2 e2 => hb H2 (e.trans e2) _ fun H3 e3 => by
    have ex := (e.trans e2).trans e3
    rcases h with h | h
    · exact .inl ⟨p, xs, i, v, rfl, rfl, ex_l ex h, hv, q H3 (e2.trans e3)⟩
    · exact .inr (.inl ⟨p, xs, i, v, rfl, rfl, ex_t ex h, hv, q H3 (e2.trans e3)⟩)
theorem ev_lenQ {p : Addr} {xs : List V} (ha : Ev ta σ H (.ref p)) (h : SqQ K H p xs) : Ev (tCB (rLenS K) (tCons ta tNil)) σ H (.int (xs.length : Int)) := by
  rcases h with h | h
  · exact ev_lenSL ha h
  · exact ev_lenST ha h
theorem pure__law_one_of (T : Tx K A) (vs : List V) (H : Hp) (Q : VK) (E : XK) (h : sp__law_one_of K A vs H Q E) : t__law_one_of K A { nx := fun _ H' => Q .non H', rt := Q } (start ["_law_box", "_law_some"] vs) H := by
  obtain ⟨b, l, xs, rfl, B, hx, h0, hl, k⟩ := h
  refine ⟨_, rfl, ?_⟩
  refine (eb_choose (σ := [some (.ref b), some (.ref l)]) (tr := tCons (tVar 0) (tCons (tCB (rLenS K) (tCons (tVar 1) tNil)) tNil)) (m := (xs.length : Int)) (H := H) (b := b) (ea_cons (ev_var rfl) (ea_cons (ev_lenQ (ev_var rfl) hx) ea_nil)) (by omega) (by omega)) H hole_ex B _ ?_
  rintro v H2 e2 B2 ⟨r, hr, rfl⟩
  have hrl : r < xs.length := by omega
  have hxr : xs[r]? = some xs[r] := by simp [hrl]
  have hat : atI xs (r : Int) = some xs[r] := atI_nat' hxr
  rcases hx with hx | hx
  · exact .inl ⟨l, xs, r, _, rfl, rfl, ex_l e2 hx, hat, k r _ H2 hxr e2 B2⟩
  · exact .inr (.inl ⟨l, xs, r, _, rfl, rfl, ex_t e2 hx, hat, k r _ H2 hxr e2 B2⟩)
theorem len__law_one_of : ∀ vs H Q E, sp__law_one_of K A vs H Q E → vs.length = 2 := by
  rintro vs H Q E ⟨b, l, xs, rfl, _⟩
  rfl
/-! ### comprehensions that draw -/
theorem ex_hole_upd {o : HO} (e : Ex (hole b H) H1) (hD : H b = none ∨ True) : Ex (hole b H) (upd H1 b o) := hole_trans e hole_upd
theorem lc_box {J : It} {n i : Nat} {f : Nat → V} {Dl : Addr} {Qd : Hp → Prop} (P : V → Hp → Prop) (hP : ∀ v H H', Ex (hole b H) H' → P v H → P v H') (hPD : ∀ v H acc acc', H Dl = some (.lst acc) → P v H → P v (upd H Dl (.lst acc')))
    (w : Walk J n (fun _ => True) (YFn f)) (B : BoxAt H1 b) (hD : H1 Dl = none) (hn : n ≤ 100000) (hw : ∀ v, wipe ((wipe σ [i]).set i v) [i] = wipe σ [i])
    (turn : ∀ (j : Nat) (H2 : Hp), j < n → Ex (hole b H1) H2 → BoxAt H2 b → EvB b te ((wipe σ [i]).set i (some (f j))) H2 P)
    (done : ∀ H2 xs, H2 Dl = some (.lst xs) → xs.length = n → (∀ x ∈ xs, P x H2) → Ex (hole b H1) H2 → BoxAt H2 b → Qd H2) :
    ∃ W : Nat → Nat → Hp → Prop, (∃ m, W 0 m (upd H1 Dl (.lst []))) ∧ ∀ (i' m : Nat) (H : Hp), W i' m H → J.stop i' H ∧ Qd H ∨ J.go i' H ∧ ∃ Nx : Hp → Prop, (∀ H', Nx H' → ∃ m', m' < m ∧ W (i' + 1) m' H') ∧ ∀ (x : V) (H' : Hp), J.yld i' H x H' →
      gName i x (wipe σ [i]) H' fun σ2 H2 => wipe σ2 [i] = wipe σ [i] ∧ tYes σ2 H2 fun c H3 => if c = true then te σ2 H3 fun y H4 => ∃ acc, H4 Dl = some (.lst acc) ∧ acc.length < sizeLine ∧ Nx (upd H4 Dl (.lst (acc ++ [y]))) else Nx H3 := by
  have hDb : Dl ≠ b := B.ne hD
  refine lc_it w (fun j H' => ∃ acc, H' Dl = some (.lst acc) ∧ acc.length = j ∧ (∀ x ∈ acc, P x H') ∧ Ex (hole b H1) H' ∧ BoxAt H' b) ?_ (fun _ _ _ _ => trivial) ?_ ?_
  · refine ⟨[], upd_same, rfl, fun x hx => absurd hx List.not_mem_nil, hole_ex.trans (Ex.new hD), ?_⟩
    obtain ⟨x, y, h1, h2⟩ := B
    exact ⟨x, y, by rw [upd_ne hDb.symm]; exact h1, h2⟩
  · rintro j x Ha Hb hj ⟨acc, h1, h2, h3, h4, h5⟩ ⟨rfl, rfl⟩
    refine ⟨hw _, ?_⟩
    show te _ Hb fun y H4 => ∃ acc, H4 Dl = some (.lst acc) ∧ acc.length < sizeLine ∧ _
    refine turn j Hb hj h4 h5 Hb hole_ex h5 _ fun v H4 e4 B4 p => ?_
    have hD4 : H4 Dl = some (.lst acc) := e4 _ _ (by rw [hole_ne hDb]; exact h1)
    refine ⟨acc, hD4, sz_lt (by omega), acc ++ [v], upd_same, by rw [List.length_append, h2]; rfl, fun x hx => ?_, ?_, ?_⟩
    · rcases List.mem_append.mp hx with hx | hx
      · exact hPD _ _ _ _ hD4 (hP _ _ _ e4 (h3 x hx))
      · rw [List.mem_singleton.mp hx]
        exact hPD _ _ _ _ hD4 p
    · have e5 := hole_trans h4 e4
      intro a o h
      have hne : a ≠ Dl := by
        rintro rfl
        rw [hole_ne hDb, hD] at h
        cases h
      rw [upd_ne hne]
      exact e5 a o h
    · obtain ⟨x, y, h1, h2⟩ := B4
      exact ⟨x, y, by rw [upd_ne hDb.symm]; exact h1, h2⟩
  · rintro H' ⟨acc, h1, h2, h3, h4, h5⟩
    exact done H' acc h1 h2 h3 h4 h5
/-! ### _law_word -/
theorem fold_app : ∀ (r : W) (acc : Array Nat), ((r.map fun c => S [c]).foldl (fun acc p => acc ++ (S []).cps ++ p.cps) acc).toList = acc.toList ++ r.map bc
  | [], acc => by simp
  | c :: r, acc => by
    rw [List.map_cons, List.foldl_cons, fold_app r]
    have e : (S []).cps.toList = [] := rfl
    have e2 : (S [c]).cps.toList = [bc c] := rfl
    rw [Array.toList_append, Array.toList_append, e, e2, List.append_nil, List.map_cons, List.append_assoc]
    rfl
theorem S_join (w : W) : Txt.join (S []) (w.map fun c => S [c]) = S w := by
  apply ext_tl
  show (Txt.join (S []) (w.map fun c => S [c])).cps.toList = (S w).cps.toList
  rw [tl_S]
  cases w with
  | nil => rfl
  | cons c r =>
    show (((r.map fun c => S [c]).foldl (fun acc p => acc ++ (S []).cps ++ p.cps) (S [c]).cps)).toList = _
    rw [fold_app]
    rfl
theorem sum_ones (w : W) : ((w.map fun c => S [c]).map (·.length)).sum = w.length := by
  induction w with
  | nil => rfl
  | cons a r ih =>
    rw [List.map_cons, List.map_cons, List.sum_cons, ih, S_len, List.length_singleton, List.length_cons]
    omega
theorem bits_of : ∀ {xs : List V}, (∀ x ∈ xs, ∃ c, x = .str (S [c])) → ∃ w : W, xs = w.map fun c => V.str (S [c])
  | [], _ => ⟨[], rfl⟩
  | x :: r, h => by
    obtain ⟨c, hc⟩ := h x (List.mem_cons_self ..)
    obtain ⟨w, hw⟩ := bits_of (xs := r) fun y hy => h y (List.mem_cons_of_mem _ hy)
    exact ⟨c :: w, by rw [hc, hw]; rfl⟩
def sp__law_word (K : PySem.W.Frag) (A : Ad) : Sp := fun vs H Q _ => ∃ (b : Addr) (few many : Nat), vs = [.ref b, .int (few : Int), .int (many : Int)] ∧ BoxAt H b ∧ few ≤ many ∧ many ≤ 1000 ∧ ∀ (w : W) H2, few ≤ w.length → w.length ≤ many → Ex (hole b H) H2 → BoxAt H2 b → Q (.str (S w)) H2
def t__law_word (K : PySem.W.Frag) (A : Ad) : TS :=
  (tRet (tM1 (rJoin K) (tC (.str "")) (tLc (iRng1 (tCons (tOp rAddI (tVar 1) (tCall (sp__law_choose K A) [] E0 (tCons (tVar 0) (tCons (tOp rAddI (tOp rSubI (tVar 2) (tVar 1)) (tC (.int 1))) tNil)))) tNil)) (gName 3) tYes (tCall (sp__law_one_of K A) [] E0 (tCons (tVar 0) (tCons (tLst (tCons (tC (.str "0")) (tCons (tC (.str "1")) tNil))) tNil))) [3])))
/-- ["0", "1"] -/
theorem el_01 : EvL (tLst (tCons (tC (.str "0")) (tCons (tC (.str "1")) tNil))) σ H [.str (S [false]), .str (S [true])] := el_lst (ea_cons (ev_lit S_0.symm) (ea_cons (ev_lit S_1.symm) ea_nil)) (by show 2 ≤ 100000; decide)
/-- one of ["0", "1"] -/
theorem eb_bit {E : XK} {i : Nat} (h : σ[i]? = some (some (.ref b))) : EvB b (tCall (sp__law_one_of K A) [] E (tCons (tVar i) (tCons (tLst (tCons (tC (.str "0")) (tCons (tC (.str "1")) tNil))) tNil))) σ H (fun v _ => ∃ c : Bool, v = .str (S [c])) := fun H1 e B Q q =>
  ⟨_, h, el_01 (H := H1) H1 (Ex.refl H1) _ fun p H2 hp e2 h2 => ⟨b, p, _, rfl, B.mono e2, .inl (sq_of (by rw [hole_ne ((B.ne hp))]; exact h2)), by show 0 < 2; decide, by show 2 ≤ 1000; decide, fun r x H3 hx e3 B3 => q _ H3 (hole_trans (hole_ex.trans e2) e3) B3 (by
    match r, hx with
    | 0, hx => exact ⟨false, (Option.some.inj hx).symm⟩
    | 1, hx => exact ⟨true, (Option.some.inj hx).symm⟩
    | r + 2, hx => exact absurd hx (by simp))⟩⟩
theorem pure__law_word (T : Tx K A) (vs : List V) (H : Hp) (Q : VK) (E : XK) (h : sp__law_word K A vs H Q E) : t__law_word K A { nx := fun _ H' => Q .non H', rt := Q } (start ["_law_box", "_law_few", "_law_many", "_law_turn"] vs) H := by
  obtain ⟨b, few, many, rfl, B, h1, h2, k⟩ := h
  refine ⟨⟨_, rfl⟩, _, rfl, ?_⟩
  have hm : EvA (tCons (tVar 0) (tCons (tOp rAddI (tOp rSubI (tVar 2) (tVar 1)) (tC (.int 1))) tNil)) [some (V.ref b), some (.int (few : Int)), some (.int (many : Int)), none] (hole b H) [.ref b, .int ((many : Int) - few + 1)] := ea_cons (ev_var rfl) (ea_cons (ev_addI (ev_subI (ev_var rfl) (ev_var rfl)) ev_c) ea_nil)
  refine eb_choose (K := K) (A := A) (E := E0) hm (by omega) (by omega) H hole_ex B _ ?_
  rintro v H2 e2 B2 ⟨r, hr, rfl⟩
  refine ⟨_, _, rfl, rfl, _, rfl, by omega, by omega, fun Dl hD => ?_⟩
  have hn : ((few : Int) + (r : Int)).toNat = few + r := by omega
  rw [hn]
  refine lc_box (i := 3) (f := fun j => V.int (0 + (j : Nat))) (fun v _ => ∃ c : Bool, v = .str (S [c])) (fun _ _ _ _ h => h) (fun _ _ _ _ _ h => h) walk_range B2 hD (by omega) (fun _ => rfl) (fun j H3 hj e3 B3 => eb_bit rfl) fun H3 xs h3 hl hx e3 B3 => ?_
  obtain ⟨w, rfl⟩ := bits_of hx
  rw [List.length_map] at hl
  refine ⟨_, _, w.map (fun c => S [c]), rfl, rfl, .inl (by rw [List.map_map]; exact sq_of h3), ?_, ?_⟩
  · rw [sum_ones, List.length_map]
    have e0 : ("" : Str).length = 0 := by decide +kernel
    rw [e0]
    omega
  · rw [← S_nil, S_join]
    exact k w H3 (by omega) (by omega) (hole_trans e2 e3) B3
theorem len__law_word : ∀ vs H Q E, sp__law_word K A vs H Q E → vs.length = 3 := by
  rintro vs H Q E ⟨b, f, m, rfl, _⟩
  rfl
end
end Fl

/-! The laws' own look at rules: words, put, is_rule -/
namespace Fl
open PySem L2 Evl TL StX
section
variable {K : PySem.W.Frag} {A : Ad} {σ : L2.St} {H H' H1 H2 : Hp} {ta te tb : TE} {tr : TA} {vs : List V} {D : Ends} {v : V} {tz : TS}
/-! ### lists of words against [] -/
theorem strOk_S (w : W) : PyData.strOk (S w) = true := by
  unfold PyData.strOk S
  rw [Array.all_eq_true']
  intro x hx
  have hx' : x ∈ w.map bc := by simpa using hx
  obtain ⟨b, _, rfl⟩ := List.mem_map.mp hx'
  cases b <;> decide
theorem dpAll_S : ∀ ws : List W, DpAll K H (ws.map fun w => V.str (S w)) (ws.map fun w => PyData.str (S w))
  | [] => .nil
  | w :: r => .cons (.str _) (dpAll_S r)
theorem lay_S : ∀ ws : List W, PyData.canLayAll0 (ws.map fun w => PyData.str (S w)) = true ∧ PyData.depthAll (ws.map fun w => PyData.str (S w)) ≤ 1
  | [] => ⟨rfl, by decide⟩
  | w :: r => by
    obtain ⟨h1, h2⟩ := lay_S r
    rw [List.map_cons]
    refine ⟨?_, ?_⟩
    · unfold PyData.canLayAll0
      rw [h1, Bool.and_true]
      unfold PyData.canLay0
      exact strOk_S w
    · unfold PyData.depthAll
      have : (PyData.str (S w)).depth = 0 := rfl
      omega
theorem shaped_S (ws : List W) : SeqAt.shaped (.list (ws.map fun w => PyData.str (S w))) = true := by
  obtain ⟨h1, h2⟩ := lay_S ws
  unfold SeqAt.shaped PyData.canLay0 PyData.depth
  rw [h1, Bool.true_and]
  exact decide_eq_true (by omega)
theorem eqv_nil (ws : List W) : PyData.eqv (.list (ws.map fun w => PyData.str (S w))) (.list []) = decide (ws = []) := by
  cases ws with
  | nil => rfl
  | cons a r => rfl
/-- xs != [] -/
theorem ev_neNil {p : Addr} {ws : List W} (ha : Ev ta σ H (.ref p)) (hp : SqL K H p (ws.map fun w => V.str (S w))) : Ev (tOp (rNeD K) ta (tLst tNil)) σ H (.bl (!decide (ws = []))) := fun H1 e Q q =>
  ha H1 e _ fun H2 e2 => ⟨by decide, fun l hl => ⟨_, _, .lst (ex_l ((e.trans e2).trans (Ex.new hl)) hp) (dpAll_S ws), .lst (sq_of upd_same) .nil, shaped_S ws, shaped_S [], by rw [eqv_nil]; exact q _ (e2.trans (Ex.new hl))⟩⟩
/-! ### _law_words -/
def wordsW : Nat → List W
  | 0 => [[]]
  | n + 1 => (wordsW n).map (false :: ·) ++ (wordsW n).map (true :: ·)
theorem wordsW_len : ∀ n, (wordsW n).length = 2 ^ n
  | 0 => rfl
  | n + 1 => by
    show ((wordsW n).map _ ++ (wordsW n).map _).length = _
    rw [List.length_append, List.length_map, List.length_map, wordsW_len n, Nat.pow_succ]
    omega
theorem wordsW_mem : ∀ {n : Nat} {w : W}, w ∈ wordsW n → w.length = n
  | 0, w, h => by rw [List.mem_singleton.mp h]; rfl
  | n + 1, w, h => by
    rcases List.mem_append.mp h with h | h <;>
    · obtain ⟨u, hu, rfl⟩ := List.mem_map.mp h
      rw [List.length_cons, wordsW_mem hu]
def sp__law_words (K : PySem.W.Frag) (A : Ad) : Sp := fun vs H Q _ => ∃ (n : Nat), vs = [.int (n : Int)] ∧ n ≤ 10 ∧ ∀ p H2, H p = none → Ex H H2 → H2 p = some (.lst ((wordsW n).map fun w => V.str (S w))) → Q (.ref p) H2
def t__law_words (K : PySem.W.Frag) (A : Ad) : TS :=
  (tSeq (tAsg (tLst (tCons (tC (.str "")) tNil)) (gName 1))
    (tSeq (tFor (iRng1 (tCons (tVar 0) tNil)) (gName 2) (tAsg (tOp rCat (tLc (iList K (tVar 1)) (gName 3) tYes (tOp rAddT (tC (.str "0")) (tVar 3)) [3]) (tLc (iList K (tVar 1)) (gName 3) tYes (tOp rAddT (tC (.str "1")) (tVar 3)) [3])) (gName 1)))
    (tRet (tVar 1))))
theorem el_cat {xs ys : List V} (ha : EvL ta σ H xs) (hb : EvL tb σ H ys) (hl : xs.length + ys.length ≤ 100000) : EvL (tOp rCat ta tb) σ H (xs ++ ys) := fun H1 e Q q =>
  ha H1 e _ fun p H2 hp e2 h2 => hb H2 (e.trans e2) _ fun r H3 hr e3 h3 => ⟨p, r, xs, ys, rfl, rfl, e3 _ _ h2, h3, sz hl, fun l hl' => q l _ (fresh_back (e2.trans e3) hl') ((e2.trans e3).trans (Ex.new hl')) upd_same⟩
theorem pure__law_words (T : Tx K A) (vs : List V) (H : Hp) (Q : VK) (E : XK) (h : sp__law_words K A vs H Q E) : t__law_words K A { nx := fun _ H' => Q .non H', rt := Q } (start ["_law_size", "_law_found", "_law_turn", "_law_word_here"] vs) H := by
  obtain ⟨n, rfl, hn, k⟩ := h
  refine q_asgL (xs := ([[]] : List W).map fun w => V.str (S w)) (el_lst (ea_cons (ev_lit S_nil.symm) ea_nil) (by show 1 ≤ 100000; decide)) fun p0 H1 hp0 e1 h1 => ?_
  refine q_for (n := n) (G := fun _ => True) (Y := YFn fun i => .int (i : Nat)) (src_rng1 (ea_cons (ev_var rfl) ea_nil) (by omega))
    (fun i σ' H' => ∃ p t, H p = none ∧ Ex H H' ∧ H' p = some (.lst ((wordsW i).map fun w => V.str (S w))) ∧ σ' = [some (.int (n : Int)), some (.ref p), t, none])
    (fun H2 e2 => ⟨p0, none, hp0, e1.trans e2, e2 _ _ h1, rfl⟩) (fun _ _ _ _ _ => trivial) ?_ ?_
  · rintro i x σ' Ha Hb hi ⟨p, t, hp, e, hh, rfl⟩ ⟨rfl, rfl⟩
    refine g_name ?_
    have hlen := wordsW_len i
    have hpow : 2 ^ i ≤ 1024 := Nat.pow_le_pow_right (n := 2) (by decide) (show i ≤ 10 by omega)
    have half : ∀ (c : Bool) (lit : Str), lit = S [c] → EvL (tLc (iList K (tVar 1)) (gName 3) tYes (tOp rAddT (tC (.str lit)) (tVar 3)) [3]) [some (.int (n : Int)), some (.ref p), some (.int (i : Nat)), none] Hb ((wordsW i).map fun w => V.str (S (c :: w))) := by
      intro c lit hlit
      refine el_lcM (G := fun H => SqL K H p ((wordsW i).map fun w => V.str (S w))) (Y := YAt ((wordsW i).map fun w => V.str (S w))) (wordsW i) (fun w => V.str (S (c :: w))) ?_ (fun H' e => ex_l e (sq_of hh)) (by omega) fun j w x H2 H3 hj e2 y => ?_
      · have z := src_list (K := K) (σ := [some (.int (n : Int)), some (.ref p), some (.int (i : Nat)), none]) (tl := tVar 1) (H := Hb) (ev_var rfl) (sq_of hh)
        rw [List.length_map] at z
        exact z
      · obtain ⟨rfl, hx⟩ := y
        rw [List.getElem?_map, hj] at hx
        cases hx
        have hwl := wordsW_mem (List.mem_of_getElem? hj)
        exact ⟨Ex.refl _, _, fun Q q => g_name q, rfl, ev_addT (a := [c]) (b := w) (ev_lit hlit) (ev_var rfl) (by rw [List.length_singleton]; omega)⟩
    refine s_asgL (xs := (wordsW (i + 1)).map fun w => V.str (S w)) ?_ fun q H3 hq e3 h3 => ⟨q, _, fresh_back e hq, e.trans e3, h3, rfl⟩
    refine el_is (el_cat (half false "0" S_0.symm) (half true "1" S_1.symm) (by rw [List.length_map, List.length_map, hlen]; omega)) ?_
    show _ = ((wordsW i).map _ ++ (wordsW i).map _).map _
    rw [List.map_append, List.map_map, List.map_map]
    rfl
  · rintro σ' H' ⟨p, t, hp, e, hh, rfl⟩
    exact s_ret (v := .ref p) (ev_var rfl) fun H2 e2 => k p H2 hp (e.trans e2) (e2 _ _ hh)
theorem len__law_words : ∀ vs H Q E, sp__law_words K A vs H Q E → vs.length = 1 := by
  rintro vs H Q E ⟨n, rfl, _⟩
  rfl
/-! ### _law_put -/
/-- a rule as the laws tell it: (flag, [stuffs]) -/
def ToldAt (K : PySem.W.Frag) (H : Hp) (v : V) (st : St') : Prop := ∃ t vf l xs, v = .ref t ∧ SqT K H t [vf, .ref l] ∧ SqL K H l xs ∧ StL K H xs st
theorem ToldAt.mono {st : St'} (e : Ex H H') (h : ToldAt K H v st) : ToldAt K H' v st := by
  obtain ⟨t, vf, l, xs, h0, h1, h2, h3⟩ := h
  exact ⟨t, vf, l, xs, h0, ex_t e h1, ex_l e h2, h3.mono e⟩
def optW : Option Bool → W
  | none => []
  | some b => [b]
theorem step1_opt (pt : W → Option Bool) (l : W) : step1 pt l = l ++ optW (pt l) := by
  unfold step1
  cases pt l with
  | none => exact (List.append_nil l).symm
  | some b => rfl
theorem tail_ends (l p : W) : decide (tailW l p.length = p) = endsW l p := by
  unfold endsW tailW
  by_cases h : p.length ≤ l.length
  · rw [decide_eq_true h, Bool.true_and]
  · rw [decide_eq_false h, Bool.false_and]
    refine decide_eq_false fun e => h ?_
    have := congrArg List.length e
    rw [List.length_drop] at this
    omega
def sp__law_put (K : PySem.W.Frag) (A : Ad) : Sp := fun vs H Q _ => ∃ (v : V) (st : St') (l : W), vs = [v, .str (S l)] ∧ ToldAt K H v st ∧ st.length ≤ 1000 ∧ (∀ s ∈ st, s.1.length ≤ 1000) ∧ l.length ≤ 10000 ∧ RetV (.str (S (optW (putW st l)))) H Q
def t__law_put (K : PySem.W.Frag) (A : Ad) : TS :=
  (tSeq (tAsg (tLc (iList K (tOp (rIxT K) (tVar 0) (tC (.int 1)))) (gTup K 2 (gCons (gName 3) (gCons (gName 4) gNil))) (tTest (tOp rEq (tSl rSlS (tVar 1) (tPart (tCB rMax2 (tCons (tC (.int 0)) (tCons (tOp rSubI (tCB rLenT (tCons (tVar 1) tNil)) (tCB rLenT (tCons (tVar 3) tNil))) tNil)))) tNoPart) (tVar 3))) (tVar 4) [3, 4]) (gName 2))
    (tRet (tIf (tTest (tOp (rNeD K) (tVar 2) (tLst tNil))) (tOp (rIxL K) (tVar 2) (tC (.int 0))) (tC (.str "")))))
theorem put_filter (st : St') (l : W) : ((st.filter fun s => endsW l s.1).map fun s => s.2).head? = putW st l := by
  unfold putW
  rw [List.head?_map]
  congr 1
  exact List.head?_filter
theorem pure__law_put (T : Tx K A) (vs : List V) (H : Hp) (Q : VK) (E : XK) (h : sp__law_put K A vs H Q E) : t__law_put K A { nx := fun _ H' => Q .non H', rt := Q } (start ["_law_rule", "_law_line", "_law_some", "_law_pattern", "_law_bit"] vs) H := by
  obtain ⟨v, st, l, rfl, ⟨t, vf, lp, xs, rfl, ht, hl, hS⟩, h1, h2, h3, k⟩ := h
  have hn := stl_len hS
  refine q_asgL (xs := ((st.filter fun s => endsW l s.1).map fun s => ([s.2] : W)).map fun w => V.str (S w)) ?_ fun p H1 hp e1 hh => ?_
  · rw [List.map_map]
    refine el_lcD (G := fun H => SqL K H lp xs) (Y := YAt xs) st (fun s => endsW l s.1) (fun s => V.str (S [s.2])) ?_ (fun H' e => ex_l e hl) (by omega) fun i s x Ha Hb hi e y => ?_
    · rw [← hn]
      exact src_list (ev_ixT (ev_var rfl) ev_c ht rfl) hl
    · obtain ⟨rfl, hx⟩ := y
      obtain ⟨s', hs', q, rfl, hq⟩ := stl_get (hS.mono e) hx
      rw [hi] at hs'
      cases hs'
      have hsl := h2 s (List.mem_of_getElem? hi)
      refine ⟨Ex.refl _, _, fun Q q => g_two hq q, rfl, et_is (et_test (ev_eqS (a := tailW l s.1.length) (b := s.1) ?_ (ev_var rfl))) (tail_ends l s.1), fun _ => ev_var rfl⟩
      rw [← cut_tail]
      exact ev_slT (ev_var rfl) (eo_some (ev_max2 ev_c (ev_subI (ev_lenT (ev_var rfl) (by omega)) (ev_lenT (ev_var rfl) (by omega))))) eo_none (by omega)
  · refine s_ret (v := .str (S (optW (putW st l)))) (ev_if (et_test (ev_neNil (ev_var rfl) (sq_of hh))) (fun hb => ?_) (fun hb => ?_)) fun H2 e2 => k H2 (e1.trans e2)
    · have hz := put_filter st l
      cases q : st.filter (fun s => endsW l s.1) with
      | nil => rw [q] at hb; exact absurd hb (by decide)
      | cons s r =>
        rw [q] at hz
        have e : putW st l = some s.2 := hz.symm
        rw [e]
        rw [q] at hh
        exact ev_ixL (i := ((0 : Nat) : Int)) (ev_var rfl) ev_c (sq_of hh) (atI_nat' rfl)
    · have hz := put_filter st l
      cases q : st.filter (fun s => endsW l s.1) with
      | nil =>
        rw [q] at hz
        have e : putW st l = none := hz.symm
        rw [e]
        exact ev_lit S_nil.symm
      | cons s r => rw [q] at hb; exact absurd hb (by simp)
theorem len__law_put : ∀ vs H Q E, sp__law_put K A vs H Q E → vs.length = 2 := by
  rintro vs H Q E ⟨v, st, l, rfl, _⟩
  rfl
theorem ev_lput {E : XK} {st : St'} {l : W} (h : EvA tr σ H [v, .str (S l)]) (ht : ToldAt K H v st) (h1 : st.length ≤ 1000) (h2 : ∀ s ∈ st, s.1.length ≤ 1000) (h3 : l.length ≤ 10000) : Ev (tCall (sp__law_put K A) [] E tr) σ H (.str (S (optW (putW st l)))) :=
  ev_call h fun H1 e Q q E => ⟨v, st, l, rfl, ht.mono e, h1, h2, h3, q⟩
/-! ### _law_is_rule -/
theorem clash_yes {st : St'} {i j : Nat} {s t : W × Bool} (hi : st[i]? = some s) (hj : st[j]? = some t) (hne : i ≠ j) (he : endsW s.1 t.1 = true) : clash st i = true := by
  have hil := (List.getElem?_eq_some_iff.mp hi).1
  have hjl := (List.getElem?_eq_some_iff.mp hj).1
  unfold clash
  rw [hi]
  refine List.any_eq_true.mpr ⟨t, ?_, he⟩
  rcases Nat.lt_or_gt_of_ne hne with q | q
  · refine List.mem_append_right _ (List.mem_iff_getElem?.mpr ⟨j - (i + 1), ?_⟩)
    rw [List.getElem?_drop, show i + 1 + (j - (i + 1)) = j by omega]
    exact hj
  · refine List.mem_append_left _ (List.mem_iff_getElem?.mpr ⟨j, ?_⟩)
    rw [List.getElem?_take_of_lt (by omega)]
    exact hj
theorem clash_no {st : St'} {i : Nat} {s : W × Bool} (hi : st[i]? = some s) (h : ∀ j t, j ≠ i → st[j]? = some t → endsW s.1 t.1 = false) : clash st i = false := by
  unfold clash
  rw [hi]
  dsimp only
  rw [List.any_eq_false]
  intro t ht
  rcases List.mem_append.mp ht with ht | ht
  · obtain ⟨j, hj⟩ := List.mem_iff_getElem?.mp ht
    have hjl := (List.getElem?_eq_some_iff.mp hj).1
    rw [List.length_take] at hjl
    rw [List.getElem?_take_of_lt (by omega)] at hj
    rw [h j t (by omega) hj]
    exact Bool.false_ne_true
  · obtain ⟨j, hj⟩ := List.mem_iff_getElem?.mp ht
    rw [List.getElem?_drop] at hj
    rw [h (i + 1 + j) t (by omega) hj]
    exact Bool.false_ne_true
theorem q_parDL {i j : Nat} {kvs : List (Key × V)} {xs : List V} (h1 : EvD ta σ H kvs) (h2 : EvL tb σ H xs) (k : ∀ p q H1, H p = none → H q = none → p ≠ q → Ex H H1 → H1 p = some (.dK kvs) → H1 q = some (.lst xs) → tz D ((σ.set i (some (.ref p))).set j (some (.ref q))) H1) : tSeq (tPar i j (tCons ta (tCons tb tNil))) tz D σ H :=
  h1 H (Ex.refl H) _ fun p H1 hp e1 hx => h2 H1 e1 _ fun q H2 hq e2 hk => ⟨.ref p, .ref q, rfl, k p q H2 hp (fresh_back e1 hq) (ne_of_none hx hq) (e1.trans e2) (e2 _ _ hx) hk⟩
theorem q_pop {l : Addr} {xs : List V} {i : Nat} (hl : H l = some (.lst xs)) (ha : Ev ta σ H (.ref l)) (hv : xs[xs.length - 1]? = some v) (k : ∀ H1, Ex H H1 → tz D (σ.set i (some v)) (upd H1 l (.lst xs.dropLast))) : tSeq (tAsg (tBM0 K "list" rPop ta) (gName i)) tz D σ H :=
  ha H (Ex.refl H) _ fun H1 e1 => ⟨.inl ⟨rfl, _, sq_of (e1 _ _ hl)⟩, l, xs, v, rfl, rfl, e1 _ _ hl, hv, k H1 e1⟩
def sp__law_is_rule (K : PySem.W.Frag) (A : Ad) : Sp := fun vs H Q _ => ∃ (v : V) (st : St'), vs = [v] ∧ ToldAt K H v st ∧ st.length ≤ 1000 ∧ (∀ s ∈ st, s.1.length ≤ 1000) ∧ RetV (.bl (lawRule st)) H Q
def t__law_is_rule (K : PySem.W.Frag) (A : Ad) : TS :=
  (tSeq (tAsg (tLc (iList K (tOp (rIxT K) (tVar 0) (tC (.int 1)))) (gTup K 2 (gCons (gName 13) (gCons (gName 9) gNil))) tYes (tVar 13) [13, 9]) (gName 1))
    (tSeq (tFor (iEnum K (tCons (tVar 1) tNil)) (gTup K 2 (gCons (gName 2) (gCons (gName 3) gNil))) (tFor (iEnum K (tCons (tVar 1) tNil)) (gTup K 2 (gCons (gName 4) (gCons (gName 5) gNil))) (tIfS (tAnd (tTest (tOp rNe (tVar 2) (tVar 4))) (tB (tM1 rEnds (tVar 3) (tVar 5)))) (tRet (tC (.bl false))) tNext)))
    (tSeq (tPar 6 7 (tCons (tDisp [((tC (.str "")), (tC (.bl true)))]) (tCons (tLst (tCons (tC (.str "")) tNil)) tNil)))
    (tSeq (tWhile (tTest (tOp (rNeD K) (tVar 7) (tLst tNil))) (tSeq (tAsg (tBM0 K "list" rPop (tVar 7)) (gName 8))
    (tFor (iStr (tC (.str "01"))) (gName 9) (tSeq (tAsg (tOp rAddT (tVar 8) (tVar 9)) (gName 10))
    (tSeq (tFor (iRng1 (tCons (tC (.int 24)) tNil)) (gName 11) (tAsg (tOp rAddT (tVar 10) (tCall (sp__law_put K A) [] E0 (tCons (tVar 0) (tCons (tVar 10) tNil)))) (gName 10)))
    (tSeq (tIfS (tTest (tOp rGtI (tCB rLenT (tCons (tVar 10) tNil)) (tOp rAddI (tCB rLenT (tCons (tVar 8) tNil)) (tC (.int 20))))) (tRet (tC (.bl false))) tNext)
    (tSeq (tAsg (tSl rSlS (tVar 10) (tPart (tCB rMax2 (tCons (tC (.int 0)) (tCons (tOp rSubI (tCB rLenT (tCons (tVar 10) tNil)) (tC (.int 5))) tNil)))) tNoPart) (gName 12))
    (tIfS (tB (tDNotIn (tVar 12) (tVar 6))) (tSeq (sDPut (tVar 6) (tVar 12) (tC (.bl true)))
    (tDrop (tBM K "list" rAppend (tVar 7) (tCons (tVar 12) tNil)))) tNext))))))))
    (tRet (tC (.bl true)))))))
/-- known, waiting: the dict's words, the list's -/
structure WalkAt (H H' : Hp) (da wa : Addr) (kn wt : List W) : Prop where
  ex : Ex H H'
  dk : H' da = some (.dK (dkT kn))
  wl : H' wa = some (.lst (wt.map fun w => V.str (S w)))
  nd : kn.Nodup
  ln : ∀ w ∈ kn, w.length ≤ 5
  ws : ∀ w ∈ wt, w.length ≤ 5
theorem WalkAt.mono {da wa : Addr} {kn wt : List W} (h : WalkAt H H' da wa kn wt) (e : Ex H' H2) : WalkAt H H2 da wa kn wt := ⟨h.ex.trans e, e _ _ h.dk, e _ _ h.wl, h.nd, h.ln, h.ws⟩
theorem grow_le (pt : W → Option Bool) (l : W) : ∀ k, (grow pt k l).length ≤ l.length + k
  | 0 => Nat.le_refl _
  | k + 1 => by
    have ih := grow_le pt l k
    show (step1 pt (grow pt k l)).length ≤ _
    rw [step1_opt, List.length_append]
    have : (optW (pt (grow pt k l))).length ≤ 1 := by cases pt (grow pt k l) <;> simp [optW]
    omega
theorem pure__law_is_rule (T : Tx K A) (vs : List V) (H : Hp) (Q : VK) (E : XK) (h : sp__law_is_rule K A vs H Q E) : t__law_is_rule K A { nx := fun _ H' => Q .non H', rt := Q } (start ["_law_rule", "_law_names", "_law_at", "_law_one", "_law_spot", "_law_other_one", "_law_known", "_law_waiting", "_law_behind", "_law_bit", "_law_line", "_law_turn", "_law_there", "_law_pattern"] vs) H := by
  obtain ⟨v, st, rfl, hT, hn1, hn2, k⟩ := h
  obtain ⟨t, vf, lp, xs, rfl, ht, hl, hS⟩ := id hT
  have hn := stl_len hS
  -- names
  refine q_asgL (xs := st.map fun s => V.str (S s.1)) ?_ fun pn H1 hpn e1 hh => ?_
  · refine el_lcM (G := fun H => SqL K H lp xs) (Y := YAt xs) st (fun s => V.str (S s.1)) ?_ (fun H' e => ex_l e hl) (by omega) fun i s x Ha Hb hi e y => ?_
    · rw [← hn]
      exact src_list (ev_ixT (ev_var rfl) ev_c ht rfl) hl
    · obtain ⟨rfl, hx⟩ := y
      obtain ⟨s', hs', q, rfl, hq⟩ := stl_get (hS.mono e) hx
      rw [hi] at hs'
      cases hs'
      exact ⟨Ex.refl _, _, fun Q q => g_two hq q, rfl, ev_var rfl⟩
  have hnl : (st.map fun s => V.str (S s.1)).length = st.length := List.length_map ..
  have get_name : ∀ {i : Nat} {x : V}, (st.map fun s => V.str (S s.1))[i]? = some x → ∃ s, st[i]? = some s ∧ x = V.str (S s.1) := by
    intro i x hx
    rw [List.getElem?_map] at hx
    cases q : st[i]? with
    | none => rw [q] at hx; cases hx
    | some s => rw [q] at hx; exact ⟨s, rfl, (Option.some.inj hx).symm⟩
  -- no pattern ends with another one
  refine q_for (n := st.length) (G := fun H => SqL K H pn (st.map fun s => V.str (S s.1))) (Y := YPair (fun i => some (.int (i : Nat))) (fun i => (st.map fun s => V.str (S s.1))[i]?)) (by
      have z := src_enumL (K := K) (H := H1) (σ := [some (V.ref t), some (V.ref pn), none, none, none, none, none, none, none, none, none, none, none, none]) (ta := tCons (tVar 1) tNil) (ea_cons (ev_var rfl) ea_nil) (sq_of hh)
      rw [hnl] at z
      exact z)
    (fun i σ' H' => Ex H1 H' ∧ (∃ a b c d, σ' = [some (V.ref t), some (V.ref pn), a, b, c, d, none, none, none, none, none, none, none, none]) ∧ ∀ j, j < i → clash st j = false)
    (fun H2 e2 => ⟨e2, ⟨_, _, _, _, rfl⟩, fun j hj => absurd hj (Nat.not_lt_zero _)⟩) (fun i σ' H' _ w => ex_l w.1 (sq_of hh)) ?_ ?_
  · rintro i x σ' Ha Hb hi ⟨e, ⟨a, b, c, d, rfl⟩, hno⟩ ⟨Tp, x1, x2, rfl, hTp, rfl, hx1, hx2⟩
    cases hx1
    obtain ⟨s, hs, rfl⟩ := get_name hx2
    refine g_two (st_of upd_same) ?_
    have eb := e.trans (Ex.new (o := .tup [.int (i : Nat), V.str (S s.1)]) hTp)
    refine s_for (n := st.length) (G := fun H => SqL K H pn (st.map fun s => V.str (S s.1))) (Y := YPair (fun i => some (.int (i : Nat))) (fun i => (st.map fun s => V.str (S s.1))[i]?)) (by
        have z := src_enumL (K := K) (H := upd Ha Tp (.tup [.int (i : Nat), V.str (S s.1)])) (σ := [some (V.ref t), some (V.ref pn), some (.int (i : Nat)), some (.str (S s.1)), c, d, none, none, none, none, none, none, none, none]) (ta := tCons (tVar 1) tNil) (ea_cons (ev_var rfl) ea_nil) (ex_l eb (sq_of hh))
        rw [hnl] at z
        exact z)
      (fun j σ' H' => Ex H1 H' ∧ (∃ c d, σ' = [some (V.ref t), some (V.ref pn), some (.int (i : Nat)), some (.str (S s.1)), c, d, none, none, none, none, none, none, none, none]) ∧ ∀ j' t', j' < j → j' ≠ i → st[j']? = some t' → endsW s.1 t'.1 = false)
      (fun H2 e2 => ⟨eb.trans e2, ⟨_, _, rfl⟩, fun j' t' hj => absurd hj (Nat.not_lt_zero _)⟩) (fun j σ' H' _ w => ex_l w.1 (sq_of hh)) ?_ ?_
    · rintro j x σ' Hc Hd hj ⟨e2, ⟨c, d, rfl⟩, hno2⟩ ⟨Tq, y1, y2, rfl, hTq, rfl, hy1, hy2⟩
      cases hy1
      obtain ⟨s2, hs2, rfl⟩ := get_name hy2
      refine g_two (st_of upd_same) ?_
      have ed := e2.trans (Ex.new (o := .tup [.int (j : Nat), V.str (S s2.1)]) hTq)
      refine s_when (et_and (et_test (ev_neI (ev_var rfl) (ev_var rfl))) fun _ => et_B (ev_ends (ev_var rfl) (ev_var rfl))) (fun hb H3 e3 => ?_) (fun hb H3 e3 => ?_)
      · rw [Bool.and_eq_true] at hb
        have hne : i ≠ j := by
          intro q
          have := hb.1
          rw [q] at this
          simp at this
        have z : lawRule st = false := by
          unfold lawRule
          rw [parted_no (clash_yes hs hs2 hne hb.2)]
          rfl
        refine s_ret (v := .bl false) ev_c fun H4 e4 => ?_
        have q := k H4 (((e1.trans ed).trans e3).trans e4)
        rw [z] at q
        exact q
      · refine ⟨ed.trans e3, ⟨_, _, rfl⟩, fun j' t' hj' hne ht' => ?_⟩
        by_cases hjj : j' = j
        · subst hjj
          rw [hs2] at ht'
          cases ht'
          have hni : (!decide ((i : Int) = (j' : Int))) = true := by
            rw [decide_eq_false (by omega)]
            rfl
          rw [hni, Bool.true_and] at hb
          exact hb
        · exact hno2 j' t' (by omega) hne ht'
    · rintro σ' Hc ⟨e2, ⟨c, d, rfl⟩, hno2⟩
      refine ⟨e2, ⟨_, _, _, _, rfl⟩, fun j hj => ?_⟩
      by_cases hji : j = i
      · rw [hji]
        exact clash_no hs fun j' t' hne hj' => hno2 j' t' (List.getElem?_eq_some_iff.mp hj').1 hne hj'
      · exact hno j (by omega)
  · rintro σ' Ha ⟨ea, ⟨a, b, c, d, rfl⟩, hno⟩
    have hpart : parted st = true := parted_yes fun i hi => hno i hi
    have hlaw : lawRule st = lawWalk st 64 [[]] [[]] := by
      unfold lawRule
      rw [hpart, Bool.true_and]
    have e2 : Ex H Ha := e1.trans ea
    refine q_parDL (kvs := dkT [[]]) (xs := ([[]] : List W).map fun w => V.str (S w)) (ed_disp1 S_nil.symm) (el_lst (ea_cons (ev_lit S_nil.symm) ea_nil) (by show 1 ≤ 100000; decide)) fun da wa H3 hda hwa hne e3 hd3 hw3 => ?_
    have hdaH : H da = none := fresh_back e2 hda
    have hwaH : H wa = none := fresh_back e2 hwa
    refine q_while (fun m σ' H' => ∃ kn wt s8 s9 s10 s11 s12, WalkAt H H' da wa kn wt ∧ σ' = [some (V.ref t), some (V.ref pn), a, b, c, d, some (.ref da), some (.ref wa), s8, s9, s10, s11, s12, none] ∧ (m + kn.length = 64 + wt.length ∧ m ≤ 64) ∧ lawWalk st m kn wt = lawRule st) 64
      ⟨[[]], [[]], none, none, none, none, none, ⟨e2.trans e3, hd3, hw3, by decide, fun w hw => by rw [List.mem_singleton.mp hw]; exact Nat.zero_le _, fun w hw => by rw [List.mem_singleton.mp hw]; exact Nat.zero_le _⟩, rfl, ⟨rfl, Nat.le_refl _⟩, hlaw.symm⟩ ?_
    rintro m σ' H' ⟨kn, wt, s8, s9, s10, s11, s12, D0, rfl, ⟨hm, hm64⟩, hp⟩
    have hlt := nodup_words D0.nd D0.ln
    have e64 : 2 ^ (5 + 1) = 64 := by decide
    obtain ⟨m', rfl⟩ : ∃ m', m = m' + 1 := ⟨m - 1, by omega⟩
    refine ⟨!decide (wt = []), et_test (ev_neNil (ev_var rfl) (sq_of D0.wl)), fun hb H4 e4 => ?_, fun hb H4 e4 => ?_⟩
    · have D4 := D0.mono e4
      refine ⟨_, fun σ2 H2 w => ⟨m', by omega, w⟩, ?_⟩
      have hwne : wt ≠ [] := by simpa using hb
      obtain ⟨wt', behind, rfl⟩ : ∃ wt' behind, wt = wt' ++ [behind] := ⟨wt.dropLast, wt.getLast hwne, (List.dropLast_concat_getLast hwne).symm⟩
      have hbl : behind.length ≤ 5 := D4.ws behind (by simp)
      have hp2 : (match lawStep st kn wt' behind false with | none => false | some (k1, w1) => match lawStep st k1 w1 behind true with | none => false | some (k2, w2) => lawWalk st m' k2 w2) = lawRule st := by
        rw [← hp]
        show _ = (match (wt' ++ [behind]).getLast? with | none => true | some behind => _)
        rw [List.getLast?_concat]
        dsimp only
        rw [List.dropLast_concat]
        rfl
      rw [List.length_append, List.length_singleton] at hm
      -- behind = waiting.pop()
      refine q_pop (xs := (wt' ++ [behind]).map fun w => V.str (S w)) (v := .str (S behind)) D4.wl (ev_var rfl) ?_ fun H5 e5 => ?_
      · rw [List.length_map, List.length_append, List.length_singleton, Nat.add_sub_cancel, List.map_append, List.getElem?_append_right (by rw [List.length_map]; exact Nat.le_refl _), List.length_map, Nat.sub_self]
        rfl
      have D5 : WalkAt H (upd H5 wa (.lst (((wt' ++ [behind]).map fun w => V.str (S w)).dropLast))) da wa kn wt' := by
        have D5' := D4.mono e5
        refine ⟨Ex.mut D5'.ex hwaH, by rw [upd_ne hne]; exact D5'.dk, ?_, D5'.nd, D5'.ln, fun w hw => D5'.ws w (List.mem_append_left _ hw)⟩
        rw [upd_same, List.map_append, List.map_singleton, List.dropLast_concat]
      -- for bit in "01"
      refine s_for (n := 2) (G := fun _ => True) (Y := YBit [false, true]) (src_word (ev_lit S_01.symm))
        (fun j σ2 H2 => ∃ kn2 wt2 s9 s10 s11 s12, WalkAt H H2 da wa kn2 wt2 ∧ σ2 = [some (V.ref t), some (V.ref pn), a, b, c, d, some (.ref da), some (.ref wa), some (.str (S behind)), s9, s10, s11, s12, none] ∧ m' + kn2.length = 64 + wt2.length ∧
          ((j = 0 ∧ kn2 = kn ∧ wt2 = wt') ∨ (j = 1 ∧ lawStep st kn wt' behind false = some (kn2, wt2)) ∨ (j = 2 ∧ ∃ k1 w1, lawStep st kn wt' behind false = some (k1, w1) ∧ lawStep st k1 w1 behind true = some (kn2, wt2))))
        (fun H6 e6 => ⟨kn, wt', _, _, _, _, D5.mono e6, rfl, by omega, .inl ⟨rfl, rfl, rfl⟩⟩) (fun _ _ _ _ _ => trivial) ?_ ?_
      · rintro j x σ2 Hb Hc hj ⟨kn2, wt2, s9, s10, s11, s12, D2, rfl, hm2, hst⟩ ⟨rfl, bit, hbit, rfl⟩
        have step : (lawStep st kn2 wt2 behind bit = none → lawRule st = false) ∧ ∀ k3 w3, lawStep st kn2 wt2 behind bit = some (k3, w3) → (j + 1 = 0 ∧ k3 = kn ∧ w3 = wt') ∨ (j + 1 = 1 ∧ lawStep st kn wt' behind false = some (k3, w3)) ∨ (j + 1 = 2 ∧ ∃ k1 w1, lawStep st kn wt' behind false = some (k1, w1) ∧ lawStep st k1 w1 behind true = some (k3, w3)) := by
          rcases hst with ⟨rfl, rfl, rfl⟩ | ⟨rfl, h1⟩ | ⟨rfl, _⟩
          · have : bit = false := by simpa using hbit.symm
            subst this
            refine ⟨fun q => ?_, fun k3 w3 q => .inr (.inl ⟨rfl, q⟩)⟩
            rw [q] at hp2
            exact hp2.symm
          · have : bit = true := by simpa using hbit.symm
            subst this
            refine ⟨fun q => ?_, fun k3 w3 q => .inr (.inr ⟨rfl, _, _, h1, q⟩)⟩
            rw [h1] at hp2
            dsimp only at hp2
            rw [q] at hp2
            exact hp2.symm
          · omega
        refine g_name ?_
        refine q_asg (v := .str (S (behind ++ [bit]))) (ev_addT (ev_var rfl) (ev_var rfl) (by rw [List.length_singleton]; omega)) fun H6 e6 => ?_
        have D6 := D2.mono e6
        -- for turn in range(24)
        refine q_for (n := 24) (G := fun _ => True) (Y := YFn fun i => .int (i : Nat)) (src_rng1 (k := 24) (ea_cons ev_c ea_nil) (by decide))
          (fun i σ3 H3 => ∃ s11, WalkAt H H3 da wa kn2 wt2 ∧ σ3 = [some (V.ref t), some (V.ref pn), a, b, c, d, some (.ref da), some (.ref wa), some (.str (S behind)), some (.str (S [bit])), some (.str (S (grow (putW st) i (behind ++ [bit])))), s11, s12, none])
          (fun H7 e7 => ⟨_, D6.mono e7, rfl⟩) (fun _ _ _ _ _ => trivial) ?_ ?_
        · rintro i x σ3 Hd He hi ⟨s11, D7, rfl⟩ ⟨rfl, rfl⟩
          refine g_name ?_
          have hgl := grow_le (putW st) (behind ++ [bit]) i
          rw [List.length_append, List.length_singleton] at hgl
          have hol : (optW (putW st (grow (putW st) i (behind ++ [bit])))).length ≤ 1 := by cases putW st (grow (putW st) i (behind ++ [bit])) <;> simp [optW]
          refine s_asg (v := .str (S (grow (putW st) (i + 1) (behind ++ [bit])))) ?_ fun H8 e8 => ⟨_, D7.mono e8, rfl⟩
          refine ev_is (ev_addT (ev_var rfl) (ev_lput (ea_cons (ev_var rfl) (ea_cons (ev_var rfl) ea_nil)) (hT.mono D7.ex) hn1 hn2 (by omega)) (by omega)) ?_
          show _ = V.str (S (step1 (putW st) (grow (putW st) i (behind ++ [bit]))))
          rw [step1_opt]
        · rintro σ3 Hd ⟨s11', D7, rfl⟩
          have hgl := grow_le (putW st) (behind ++ [bit]) 24
          rw [List.length_append, List.length_singleton] at hgl
          refine q_when (b := decide (behind.length + 20 < (grow (putW st) 24 (behind ++ [bit])).length)) (et_is (et_test (ev_gtI (ev_lenT (ev_var rfl) (by omega)) (ev_addI (ev_lenT (ev_var rfl) (by omega)) ev_c))) (decide_eq_decide.mpr (show ((behind.length : Int) + 20 < ((grow (putW st) 24 (behind ++ [bit])).length : Int)) ↔ behind.length + 20 < (grow (putW st) 24 (behind ++ [bit])).length by omega))) (fun hb8 H8 e8 => ?_) (fun hb8 H8 e8 => ?_)
          · have hc8 := of_decide_eq_true hb8
            have z := step.1 (by unfold lawStep; rw [if_pos hc8])
            refine s_ret (v := .bl false) ev_c fun H9 e9 => ?_
            have q := k H9 ((D7.ex.trans e8).trans e9)
            rw [z] at q
            exact q
          · have hc8 := of_decide_eq_false hb8
            have D8 := D7.mono e8
            refine q_asg (v := .str (S (tailW (grow (putW st) 24 (behind ++ [bit])) 5))) ?_ fun H9 e9 => ?_
            · rw [← cut_tail]
              exact ev_slT (ev_var rfl) (eo_some (ev_max2 ev_c (ev_subI (ev_lenT (ev_var rfl) (by omega)) ev_c))) eo_none (by omega)
            have D9 := D8.mono e9
            refine s_when (et_B (ev_dNotIn (ev_var rfl) (ev_var rfl) D9.dk)) (fun hin H10 e10 => ?_) (fun hin H10 e10 => ?_)
            · have hni : tailW (grow (putW st) 24 (behind ++ [bit])) 5 ∉ kn2 := by simpa using hin
              have D10 := D9.mono e10
              have hl10 := nodup_words D10.nd D10.ln
              have z : lawStep st kn2 wt2 behind bit = some (kn2 ++ [tailW (grow (putW st) 24 (behind ++ [bit])) 5], wt2 ++ [tailW (grow (putW st) 24 (behind ++ [bit])) 5]) := by
                unfold lawStep
                rw [if_neg hc8, if_neg hni]
              refine q_dput ev_c (ev_var rfl) (ev_var rfl) D10.dk hni (by omega) fun HA eA => ?_
              have exA : Ex H (upd HA da (.dK (dkT (kn2 ++ [tailW (grow (putW st) 24 (behind ++ [bit])) 5])))) := Ex.mut (D10.ex.trans eA) hdaH
              have wtA : (upd HA da (.dK (dkT (kn2 ++ [tailW (grow (putW st) 24 (behind ++ [bit])) 5])))) wa = some (.lst (wt2.map fun w => V.str (S w))) := by
                rw [upd_ne hne.symm]
                exact eA _ _ D10.wl
              refine s_app wtA (ev_var rfl) (v := .str (S (tailW (grow (putW st) 24 (behind ++ [bit])) 5))) (ev_var rfl) (by rw [List.length_map]; omega) fun HB eB => ?_
              have htl : (tailW (grow (putW st) 24 (behind ++ [bit])) 5).length ≤ 5 := by rw [tailW_len]; omega
              refine ⟨_, _, _, _, _, _, ⟨Ex.mut (exA.trans eB) hwaH, ?_, ?_, nodup_snoc D10.nd hni, fun w hw => ?_, fun w hw => ?_⟩, rfl, by rw [List.length_append, List.length_append]; omega, step.2 _ _ z⟩
              · rw [upd_ne hne]
                exact eB _ _ upd_same
              · rw [upd_same, List.map_append]
                rfl
              · rcases List.mem_append.mp hw with hw | hw
                · exact D10.ln w hw
                · rw [List.mem_singleton.mp hw]
                  exact htl
              · rcases List.mem_append.mp hw with hw | hw
                · exact D10.ws w hw
                · rw [List.mem_singleton.mp hw]
                  exact htl
            · have hyes : tailW (grow (putW st) 24 (behind ++ [bit])) 5 ∈ kn2 := by simpa using hin
              have z : lawStep st kn2 wt2 behind bit = some (kn2, wt2) := by
                unfold lawStep
                rw [if_neg hc8, if_pos hyes]
              exact ⟨kn2, wt2, _, _, _, _, D9.mono e10, rfl, hm2, step.2 _ _ z⟩
      · rintro σ2 H2 ⟨kn2, wt2, t9, t10, t11, t12, D2, rfl, hm2, hst⟩
        obtain ⟨k1, w1, h1, h2⟩ : ∃ k1 w1, lawStep st kn wt' behind false = some (k1, w1) ∧ lawStep st k1 w1 behind true = some (kn2, wt2) := by
          rcases hst with ⟨h, _⟩ | ⟨h, _⟩ | ⟨_, h⟩
          · cases h
          · cases h
          · exact h
        rw [h1] at hp2
        dsimp only at hp2
        rw [h2] at hp2
        exact ⟨kn2, wt2, _, _, _, _, _, D2, rfl, ⟨hm2, by omega⟩, hp2⟩
    · have hwe : wt = [] := by simpa using hb
      have z : lawRule st = true := by
        rw [← hp, hwe]
        rfl
      refine s_ret (v := .bl true) ev_c fun H5 e5 => ?_
      have q := k H5 ((D0.ex.trans e4).trans e5)
      rw [z] at q
      exact q
theorem len__law_is_rule : ∀ vs H Q E, sp__law_is_rule K A vs H Q E → vs.length = 1 := by
  rintro vs H Q E ⟨v, st, rfl, _⟩
  rfl
theorem ev_is_rule {E : XK} {st : St'} (h : EvA tr σ H [v]) (ht : ToldAt K H v st) (h1 : st.length ≤ 1000) (h2 : ∀ s ∈ st, s.1.length ≤ 1000) : Ev (tCall (sp__law_is_rule K A) [] E tr) σ H (.bl (lawRule st)) :=
  ev_call h fun H1 e Q q E => ⟨v, st, rfl, ht.mono e, h1, h2, q⟩
end
end Fl

/-! Arguments that are data made on the way; tries; a rule made in a try -/
namespace Fl
open PySem L2 Evl TL StX
def tTryAs (K : PySem.W.Frag) (c : Value) (i : Nat) (tb : WX → TS) (ts : Addr → Value → Option Addr → TS) (Wout : WX) : TS := fun D σ H => tb (wAs K c i ts Wout D) D σ H
def tTryOnly (K : PySem.W.Frag) (c : Value) (tb : WX → TS) (ts : Addr → Value → Option Addr → TS) (Wout : WX) : TS := fun D σ H => tb (wOnly K c ts Wout D) D σ H
section
variable {K : PySem.W.Frag} {A : Ad} {σ : L2.St} {H H' H1 H2 : Hp} {ta te tb : TE} {tr : TA} {vs : List V} {D : Ends} {v : V} {d : Dt} {ds : List Dt} {tz tu : TS} {g : TG}
/-- te evaluates to data d -/
def EvDt (K : PySem.W.Frag) (A : Ad) (te : TE) (σ : L2.St) (H : Hp) (d : Dt) : Prop := ∀ H1, Ex H H1 → ∀ Q : VK, (∀ v H2, Ex H1 H2 → DtAt K A H2 v d → Q v H2) → te σ H1 Q
def EvDs (K : PySem.W.Frag) (A : Ad) (tr : TA) (σ : L2.St) (H : Hp) (ds : List Dt) : Prop := ∀ H1, Ex H H1 → ∀ Q : List V → Hp → Prop, (∀ vs H2, Ex H1 H2 → DtsAt K A H2 vs ds → Q vs H2) → tr σ H1 Q
theorem dt_ev (h : Ev te σ H v) (hd : DtAt K A H v d) : EvDt K A te σ H d := fun H1 e Q q => h H1 e _ fun H2 e2 => q v H2 e2 (hd.mono (e.trans e2))
theorem dt_str {s : Str} (hs : s.length ≤ 40000) (h : Ev te σ H (.str s)) : EvDt K A te σ H (.str s) := dt_ev h (.str s hs)
theorem ds_nil : EvDs K A tNil σ H [] := fun H1 _ Q q => q [] H1 (Ex.refl H1) .nil
theorem ds_cons (h : EvDt K A te σ H d) (hr : EvDs K A tr σ H ds) : EvDs K A (tCons te tr) σ H (d :: ds) := fun H1 e Q q =>
  h H1 e _ fun v H2 e2 hv => hr H2 (e.trans e2) _ fun vs H3 e3 hvs => q (v :: vs) H3 (e2.trans e3) (.cons (hv.mono e3) hvs)
theorem dt_tup (h : EvDs K A tr σ H ds) (hl : ds.length ≤ 1000) : EvDt K A (tTup tr) σ H (.tup ds) := fun H1 e Q q =>
  h H1 e _ fun vs H2 e2 hvs => ⟨sz (by have := hvs.length; omega), fun p hp => q (.ref p) _ (e2.trans (Ex.new hp)) (.tup (st_of upd_same) (hvs.mono (Ex.new hp)) hl)⟩
theorem dt_lst (h : EvDs K A tr σ H ds) (hl : ds.length ≤ 1000) : EvDt K A (tLst tr) σ H (.lst ds) := fun H1 e Q q =>
  h H1 e _ fun vs H2 e2 hvs => ⟨sz (by have := hvs.length; omega), fun p hp => q (.ref p) _ (e2.trans (Ex.new hp)) (.lst (sq_of upd_same) (hvs.mono (Ex.new hp)) hl)⟩
/-- a call of one argument that is data -/
theorem ev_callD {sp : Sp} {E : XK} {z : V} (h : EvDt K A te σ H d) (hs : ∀ H2, Ex H H2 → ∀ v, DtAt K A H2 v d → SpV sp [v] H2 z) : Ev (tCall sp [] E (tCons te tNil)) σ H z := fun H1 e Q q =>
  h H1 e _ fun v H2 e2 hv => hs H2 (e.trans e2) v hv H2 (Ex.refl H2) Q (fun H3 e3 => q H3 (e2.trans e3)) E
/-! ### stuffs as data -/
def dOf (s : W × Bool) : Dt := .tup [.str (S s.1), .str (S [s.2])]
theorem dt_pair {s : W × Bool} (h : PairAt K H v s) (hl : s.1.length ≤ 1000) : DtAt K A H v (dOf s) := by
  obtain ⟨p, rfl, hp⟩ := h
  exact .tup hp (.cons (.str _ (by rw [S_len]; omega)) (.cons (.str _ (by rw [S_len, List.length_singleton]; omega)) .nil)) (by show 2 ≤ 1000; decide)
theorem pair_dt {s : W × Bool} (h : DtAt K A H v (dOf s)) : PairAt K H v s := by
  cases h with
  | tup hp hx _ =>
    cases hx with
    | cons ha hx =>
      cases hx with
      | cons hb hx =>
        cases hx
        cases ha
        cases hb
        exact ⟨_, rfl, hp⟩
theorem dts_stl : ∀ {xs : List V} {st : St'}, StL K H xs st → (∀ s ∈ st, s.1.length ≤ 1000) → DtsAt K A H xs (st.map dOf)
  | _, _, .nil, _ => .nil
  | _, _, .cons h1 h2, hl => .cons (dt_pair h1 (hl _ (List.mem_cons_self ..))) (dts_stl h2 fun s hs => hl s (List.mem_cons_of_mem _ hs))
theorem stl_dts : ∀ {xs : List V} {st : St'}, DtsAt K A H xs (st.map dOf) → StL K H xs st
  | [], [], _ => .nil
  | _ :: _, [], h => by cases h
  | [], _ :: _, h => by cases h
  | x :: xs, s :: st, h => by
    cases h with
    | cons h1 h2 => exact .cons (pair_dt h1) (stl_dts h2)
theorem dt_stl {p : Addr} {xs : List V} {st : St'} (hp : SqL K H p xs) (hS : StL K H xs st) (hl : ∀ s ∈ st, s.1.length ≤ 1000) (hn : st.length ≤ 1000) : DtAt K A H (.ref p) (.lst (st.map dOf)) := .lst hp (dts_stl hS hl) (by rw [List.length_map]; exact hn)
theorem dt_stu {p : Addr} {xs : List V} {st : St'} (hp : SqT K H p xs) (hS : StL K H xs st) (hl : ∀ s ∈ st, s.1.length ≤ 1000) (hn : st.length ≤ 1000) : DtAt K A H (.ref p) (.tup (st.map dOf)) := .tup hp (dts_stl hS hl) (by rw [List.length_map]; exact hn)
theorem stuffOf_d {s : W × Bool} (h : s.1 ≠ []) : stuffOf (dOf s) = some s := stuffOf_of h
theorem stuffsL_d : ∀ {st : St'}, (∀ s ∈ st, s.1 ≠ []) → stuffsL (st.map dOf) = some st
  | [], _ => rfl
  | s :: r, h => by
    show (match stuffOf (dOf s), stuffsL (r.map dOf) with | some s, some st => some (s :: st) | _, _ => none) = _
    rw [stuffOf_d (h s (List.mem_cons_self ..)), stuffsL_d fun t ht => h t (List.mem_cons_of_mem _ ht)]
/-- (flag, [stuffs]) as data -/
theorem told_dt {df : Dt} {st : St'} (h : DtAt K A H v (.tup [df, .lst (st.map dOf)])) : ToldAt K H v st := by
  cases h with
  | tup hp hx _ =>
    cases hx with
    | cons ha hx =>
      cases hx with
      | cons hb hx =>
        cases hx
        cases hb with
        | lst h1 h2 _ => exact ⟨_, _, _, _, rfl, hp, h1, stl_dts h2⟩
theorem ev_is_ruleD {E : XK} {df : Dt} {st : St'} (h : EvDt K A te σ H (.tup [df, .lst (st.map dOf)])) (h1 : st.length ≤ 1000) (h2 : ∀ s ∈ st, s.1.length ≤ 1000) : Ev (tCall (sp__law_is_rule K A) [] E (tCons te tNil)) σ H (.bl (lawRule st)) :=
  ev_callD h fun H2 e v hv H3 e3 Q q E => ⟨v, st, rfl, (told_dt hv).mono e3, h1, h2, q⟩
/-! ### for over a tuple made on the way -/
theorem s_forU {xs : List V} (h : EvU te σ H xs) (Pv : Addr → Nat → L2.St → Hp → Prop) (h0 : ∀ p H1, H p = none → Ex H H1 → H1 p = some (.tup xs) → Pv p 0 σ H1) (hG : ∀ p i σ' H', i ≤ xs.length → Pv p i σ' H' → SqT K H' p xs)
    (turn : ∀ p i x σ' H', xs[i]? = some x → Pv p i σ' H' → g x σ' H' fun σ2 H2 => tu { D with nx := Pv p (i + 1), ct := Pv p (i + 1), bk := D.nx } σ2 H2) (done : ∀ p σ' H', Pv p xs.length σ' H' → D.nx σ' H') : tFor (iTup K te) g tu D σ H :=
  h H (Ex.refl H) _ fun p H1 hp e1 h1 => ⟨p, rfl, ⟨xs, st_of h1⟩, for_it walk_tup (Pv p) (h0 p H1 hp e1 h1) (hG p) (fun i x σ' Ha Hb hi pv y => by
    obtain ⟨rfl, hx⟩ := y
    exact turn p i x σ' _ hx pv) (done p)⟩
theorem q_forU {xs : List V} (h : EvU te σ H xs) (Pv : Addr → Nat → L2.St → Hp → Prop) (h0 : ∀ p H1, H p = none → Ex H H1 → H1 p = some (.tup xs) → Pv p 0 σ H1) (hG : ∀ p i σ' H', i ≤ xs.length → Pv p i σ' H' → SqT K H' p xs)
    (turn : ∀ p i x σ' H', xs[i]? = some x → Pv p i σ' H' → g x σ' H' fun σ2 H2 => tu { D with nx := Pv p (i + 1), ct := Pv p (i + 1), bk := tz D } σ2 H2) (done : ∀ p σ' H', Pv p xs.length σ' H' → tz D σ' H') : tSeq (tFor (iTup K te) g tu) tz D σ H :=
  s_forU (D := { D with nx := tz D }) h Pv h0 hG turn done
theorem el_words {E : XK} {n : Nat} (h : EvA tr σ H [.int (n : Int)]) (hn : n ≤ 10) : EvL (tCall (sp__law_words K A) [] E tr) σ H ((wordsW n).map fun w => V.str (S w)) := fun H1 e Q q =>
  h H1 e _ fun H2 e2 => ⟨n, rfl, hn, fun p H3 hp e3 h3 => q p H3 (fresh_back e2 hp) (e2.trans e3) h3⟩
/-! ### _law_is_parted -/
def sp__law_is_parted (K : PySem.W.Frag) (A : Ad) : Sp := fun vs H Q _ => ∃ (l : Addr) (xs : List V) (s t : W × Bool), vs = [.ref l] ∧ SqL K H l xs ∧ StL K H xs [s, t] ∧ RetV (.bl (parted [s, t])) H Q
def t__law_is_parted (K : PySem.W.Frag) (A : Ad) : TS :=
  (tSeq (tAsg (tLc (iList K (tVar 0)) (gTup K 2 (gCons (gName 2) (gCons (gName 3) gNil))) tYes (tVar 2) [2, 3]) (gName 1))
    (tRet (tAndV (tNotV (tM1 rEnds (tOp (rIxL K) (tVar 1) (tC (.int 0))) (tOp (rIxL K) (tVar 1) (tC (.int 1))))) (tNotV (tM1 rEnds (tOp (rIxL K) (tVar 1) (tC (.int 1))) (tOp (rIxL K) (tVar 1) (tC (.int 0))))))))
theorem parted_two (s t : W × Bool) : parted [s, t] = (!endsW s.1 t.1 && !endsW t.1 s.1) := by
  show (!clash [s, t] 0 && (!clash [s, t] 1 && true)) = _
  have e0 : clash [s, t] 0 = (endsW s.1 t.1 || false) := rfl
  have e1 : clash [s, t] 1 = (endsW t.1 s.1 || false) := rfl
  rw [e0, e1, Bool.or_false, Bool.or_false, Bool.and_true]
theorem pure__law_is_parted (T : Tx K A) (vs : List V) (H : Hp) (Q : VK) (E : XK) (h : sp__law_is_parted K A vs H Q E) : t__law_is_parted K A { nx := fun _ H' => Q .non H', rt := Q } (start ["_law_stuffs", "_law_names", "_law_pattern", "_law_bit"] vs) H := by
  obtain ⟨l, xs, s, t, rfl, hl, hS, k⟩ := h
  have hn := stl_len hS
  refine q_asgL (xs := [s, t].map fun s => V.str (S s.1)) ?_ fun p H1 hp e1 hh => ?_
  · refine el_lcM (G := fun H => SqL K H l xs) (Y := YAt xs) [s, t] (fun s => V.str (S s.1)) ?_ (fun H' e => ex_l e hl) (by show 2 ≤ 40000; decide) fun i s x Ha Hb hi e y => ?_
    · rw [← hn]
      exact src_list (ev_var rfl) hl
    · obtain ⟨rfl, hx⟩ := y
      obtain ⟨s', hs', q, rfl, hq⟩ := stl_get (hS.mono e) hx
      rw [hi] at hs'
      cases hs'
      exact ⟨Ex.refl _, _, fun Q q => g_two hq q, rfl, ev_var rfl⟩
  · rw [parted_two] at k
    have i0 : Ev (tOp (rIxL K) (tVar 1) (tC (.int 0))) [some (V.ref l), some (V.ref p), none, none] H1 (.str (S s.1)) := ev_ixL (i := ((0 : Nat) : Int)) (ev_var rfl) ev_c (sq_of hh) (atI_nat' rfl)
    have i1 : Ev (tOp (rIxL K) (tVar 1) (tC (.int 1))) [some (V.ref l), some (V.ref p), none, none] H1 (.str (S t.1)) := ev_ixL (i := ((1 : Nat) : Int)) (ev_var rfl) ev_c (sq_of hh) (atI_nat' rfl)
    exact s_ret (v := .bl (!endsW s.1 t.1 && !endsW t.1 s.1)) (ev_andV (ev_notV (ev_ends i0 i1)) fun _ => ev_notV (ev_ends i1 i0)) fun H2 e2 => k H2 (e1.trans e2)
theorem len__law_is_parted : ∀ vs H Q E, sp__law_is_parted K A vs H Q E → vs.length = 1 := by
  rintro vs H Q E ⟨l, xs, s, t, rfl, _⟩
  rfl
/-! ### _law_word_of -/
def wordOfD (d : Dt) : Str := match ruleOf (.str (S [false, true, true, false])) d with
  | .bad w => w
  | .ok _ _ => "let"
def sp__law_word_of (K : PySem.W.Frag) (A : Ad) : Sp := fun vs H Q _ => ∃ (v : V) (d : Dt), vs = [v] ∧ DtAt K A H v d ∧ (∀ st, stuffsOf d = some st → ∀ s ∈ st, s.1.length ≤ 10) ∧ RetV (.str (wordOfD d)) H Q
def t__law_word_of (K : PySem.W.Frag) (A : Ad) : TS :=
  (tSeq (tAsg (tC (.str "let")) (gName 1))
    (tSeq (tTryAs K (.ref A.C_InvalidRule) 2 (fun W => (tDrop (tMake A.C_Rule (sp_Rule___init__ K A) [] (EA W 3) (tCons (tC (.str "0110")) (tCons (tVar 0) tNil))))) (fun a cls d => (tAsg (Exc_word.tBy A.C_InvalidRule a cls d (tVar 2)) (gName 1))) (fun _ _ _ _ => False))
    (tRet (tVar 1))))
theorem S_0110 : S [false, true, true, false] = ("0110" : Str) := by decide +kernel
theorem pure__law_word_of (T : Tx K A) (vs : List V) (H : Hp) (Q : VK) (E : XK) (h : sp__law_word_of K A vs H Q E) : t__law_word_of K A { nx := fun _ H' => Q .non H', rt := Q } (start ["_law_stuffs", "_law_found", "e"] vs) H := by
  obtain ⟨v, d, rfl, hd, hsm, k⟩ := h
  refine q_asg (v := .str "let") ev_c fun H1 e1 => ?_
  refine ⟨_, rfl, fun x dx hx hdx hne => ?_⟩
  have e2 : Ex H1 (upd H1 dx (.own x)) := Ex.new hdx
  have h0 : (upd H1 dx (.own x)) x = none := by rw [upd_ne hne.symm]; exact hx
  refine ⟨x, dx, upd H1 dx (.own x), .str "0110", v, .str (S [false, true, true, false]), d, rfl, Ex.new h0, h0, upd_same, ?_, hd.mono (e1.trans e2), hsm, ?_⟩
  · rw [S_0110]
    exact .str _ (by decide +kernel)
  · unfold wordOfD at k
    cases q : ruleOf (.str (S [false, true, true, false])) d with
    | bad w =>
      rw [q] at k
      intro H2 dd ex hdd hx2 σ hσ
      obtain ⟨a, b, c, rfl⟩ : ∃ a b c, σ = [a, b, c] := by
        match σ, hσ with
        | [a, b, c], _ => exact ⟨a, b, c, rfl⟩
      refine ⟨true, T.te_InvalidRule, fun _ a0 ha0 => ?_, fun hf => by cases hf⟩
      refine ⟨_, rfl, rfl, rfl, dd, .str w, rfl, hx2, ?_⟩
      exact s_ret (v := .str w) (ev_var rfl) fun H3 e3 => k H3 (((e1.trans e2).trans ex).trans e3)
    | ok f st =>
      rw [q] at k
      intro H2 ex R
      refine ⟨rfl, ?_⟩
      exact s_ret (v := .str "let") (ev_var rfl) fun H3 e3 => k H3 (((e1.trans e2).trans ex).trans e3)
theorem len__law_word_of : ∀ vs H Q E, sp__law_word_of K A vs H Q E → vs.length = 1 := by
  rintro vs H Q E ⟨v, d, rfl, _⟩
  rfl
theorem ev_word_ofD {E : XK} (h : EvDt K A te σ H d) (hs : ∀ st, stuffsOf d = some st → ∀ s ∈ st, s.1.length ≤ 10) : Ev (tCall (sp__law_word_of K A) [] E (tCons te tNil)) σ H (.str (wordOfD d)) :=
  ev_callD h fun H2 e v hv H3 e3 Q q E => ⟨v, d, rfl, hv.mono e3, hs, q⟩
end
end Fl

/-! law k07: rules without end -/
namespace Fl
open PySem L2 Evl TL StX
section
variable {K : PySem.W.Frag} {A : Ad} {σ : L2.St} {H H' H1 H2 : Hp} {ta te tb : TE} {tr : TA} {vs : List V} {D : Ends} {v : V} {d : Dt} {ds : List Dt} {tz tu : TS} {g : TG} {b : Addr}
theorem dec_str (x y : Str) : decide (V.str x = V.str y) = decide (x = y) := by
  by_cases h : x = y
  · rw [h]
    simp
  · rw [decide_eq_false h, decide_eq_false fun q => h (V.str.inj q)]
theorem ev_neT {x y : Str} (ha : Ev ta σ H (.str x)) (hb : Ev tb σ H (.str y)) : Ev (tOp rNe ta tb) σ H (.bl (!decide (x = y))) := by
  rw [← dec_str]
  exact ev_op ha hb (rv_ne rfl)
theorem ev_eqT {x y : Str} (ha : Ev ta σ H (.str x)) (hb : Ev tb σ H (.str y)) : Ev (tOp rEq ta tb) σ H (.bl (decide (x = y))) := by
  rw [← dec_str]
  exact ev_op ha hb (rv_eq rfl)
theorem q_asgR {i : Nat} (h : te σ H fun v H' => tz D (σ.set i (some v)) H') : tSeq (tAsg te (gName i)) tz D σ H := h
def dueS (b : Bool) : Str := if b = true then ("let" : Str) else ("endless" : Str)
theorem word_law {st : St'} (hp : parted st = true) (h4 : ∀ s ∈ st, s.1.length ≤ 4) (hd : stuffsOf d = some st) : wordOfD d = dueS (lawRule st) := by
  have h := law_endless h4 hp
  unfold wordOfD ruleOf
  have e1 : wordD (.str (S [false, true, true, false])) = some [false, true, true, false] := wordOf_S _
  rw [e1]
  dsimp only
  rw [if_neg (by decide), hd]
  dsimp only
  rw [if_neg (by rw [hp]; exact fun q => by cases q), h]
  cases lawRule st with
  | true => rfl
  | false => rfl
theorem law_perm {st st' : St'} (hp : st'.Perm st) (h : parted st = true) (h' : parted st' = true) (h4 : ∀ s ∈ st, s.1.length ≤ 4) : lawRule st' = lawRule st := by
  have a := lawRule_iff h4
  have a' := lawRule_iff (st := st') fun s hs => h4 s (hp.mem_iff.mp hs)
  rw [putW_perm hp h] at a'
  have : lawRule st' = true ↔ lawRule st = true := by
    rw [a, a']
    exact ⟨fun q => ⟨h, q.2⟩, fun q => ⟨h', q.2⟩⟩
  cases e : lawRule st <;> cases e' : lawRule st' <;> simp_all
theorem eb_word {E : XK} {few many : Nat} (h : EvA tr σ (hole b H) [.ref b, .int (few : Int), .int (many : Int)]) (h1 : few ≤ many) (h2 : many ≤ 1000) : EvB b (tCall (sp__law_word K A) [] E tr) σ H (fun v _ => ∃ w : W, few ≤ w.length ∧ w.length ≤ many ∧ v = .str (S w)) := fun H1 e B Q q =>
  h H1 e _ fun H2 e2 => ⟨b, few, many, rfl, B.mono e2, h1, h2, fun w H3 l1 l2 e3 B3 => q _ H3 (hole_trans (hole_ex.trans e2) e3) B3 ⟨w, l1, l2, rfl⟩⟩
def PairIn (K : PySem.W.Frag) (few many : Nat) (v : V) (H : Hp) : Prop := ∃ s : W × Bool, few ≤ s.1.length ∧ s.1.length ≤ many ∧ PairAt K H v s
/-- (word, bit) drawn -/
theorem eb_pair {E : XK} {i few many : Nat} {t1 t2 : TE} (h : σ[i]? = some (some (.ref b))) (w1 : ∀ H, Ev t1 σ H (.int (few : Int))) (w2 : ∀ H, Ev t2 σ H (.int (many : Int))) (h1 : few ≤ many) (h2 : many ≤ 1000) :
    EvB b (tTup (tCons (tCall (sp__law_word K A) [] E (tCons (tVar i) (tCons t1 (tCons t2 tNil)))) (tCons (tCall (sp__law_one_of K A) [] E (tCons (tVar i) (tCons (tLst (tCons (tC (.str "0")) (tCons (tC (.str "1")) tNil))) tNil))) tNil))) σ H (fun v H' => PairIn K few many v (hole b H')) := fun H1 e B Q q =>
  eb_word (K := K) (A := A) (E := E) (tr := tCons (tVar i) (tCons t1 (tCons t2 tNil))) (few := few) (many := many) (H := H1) (ea_cons (ev_var h) (ea_cons (w1 _) (ea_cons (w2 _) ea_nil))) h1 h2 H1 hole_ex B _ fun v H2 e2 B2 hv => by
    obtain ⟨w, l1, l2, rfl⟩ := hv
    refine eb_bit (K := K) (A := A) (E := E) (H := H2) h H2 hole_ex B2 _ fun v H3 e3 B3 hv => ?_
    obtain ⟨c, rfl⟩ := hv
    exact ⟨by show 2 ≤ sizeLine; decide, fun p hp => q (.ref p) _ (hole_trans e2 (e3.trans (Ex.new hp))) (B3.mono (Ex.new hp)) ⟨(w, c), l1, l2, p, rfl, st_of (by rw [hole_ne (B3.ne hp)]; exact upd_same)⟩⟩
theorem pairIn_mono {few many : Nat} (e : Ex (hole b H) H') (h : PairIn K few many v (hole b H)) : PairIn K few many v (hole b H') := by
  obtain ⟨s, l1, l2, hp⟩ := h
  exact ⟨s, l1, l2, hp.mono (hole_hole.mp e)⟩
theorem pairIn_upd {few many : Nat} {Dl : Addr} {acc acc' : List V} (hD : H Dl = some (.lst acc)) (h : PairIn K few many v (hole b H)) : PairIn K few many v (hole b (upd H Dl (.lst acc'))) := by
  obtain ⟨s, l1, l2, p, rfl, hp⟩ := h
  refine ⟨s, l1, l2, p, rfl, ?_⟩
  rcases hp with hp | hp
  · refine .inl ?_
    have key : ∀ o : HO, (∀ xs, o ≠ .lst xs) → hole b H p = some o → hole b (upd H Dl (.lst acc')) p = some o := by
      intro o ho hq
      have hpb : p ≠ b := by
        rintro rfl
        rw [hole_self] at hq
        cases hq
      rw [hole_ne hpb] at hq ⊢
      have hpD : p ≠ Dl := by
        rintro rfl
        rw [hD] at hq
        exact ho _ (Option.some.inj hq).symm
      rw [upd_ne hpD]
      exact hq
    rcases hp with hp | ⟨o, hp⟩
    · exact .inl (key _ (fun xs z => by cases z) hp)
    · exact .inr ⟨o, key _ (fun xs z => by cases z) hp⟩
  · exact .inr hp
theorem pairs_of {few many : Nat} : ∀ {xs : List V}, (∀ x ∈ xs, PairIn K few many x H) → ∃ st : St', StL K H xs st ∧ (∀ s ∈ st, few ≤ s.1.length ∧ s.1.length ≤ many)
  | [], _ => ⟨[], .nil, fun s hs => absurd hs List.not_mem_nil⟩
  | x :: r, h => by
    obtain ⟨s, l1, l2, hp⟩ := h x (List.mem_cons_self ..)
    obtain ⟨st, h1, h2⟩ := pairs_of (xs := r) fun y hy => h y (List.mem_cons_of_mem _ hy)
    refine ⟨s :: st, .cons hp h1, fun t ht => ?_⟩
    rcases List.mem_cons.mp ht with rfl | ht
    · exact ⟨l1, l2⟩
    · exact h2 t ht
/-! ### xs[::-1], tuple(xs) -/
theorem el_rev {p : Addr} {xs : List V} (ha : Ev te σ H (.ref p)) (hb : Ev tb σ H (.int (-1))) (hp : SqL K H p xs) : EvL (tRevS K te tb) σ H xs.reverse := fun H1 e Q q =>
  ha H1 e _ fun H2 e2 => hb H2 (e.trans e2) _ fun H3 e3 => ⟨rfl, p, xs, rfl, ex_l ((e.trans e2).trans e3) hp, fun l hl => q l _ (fresh_back (e2.trans e3) hl) ((e2.trans e3).trans (Ex.new hl)) upd_same⟩
theorem stl_rev : ∀ {xs : List V} {st : St'}, StL K H xs st → StL K H xs.reverse st.reverse
  | _, _, .nil => .nil
  | _, _, .cons h1 h2 => by
    rw [List.reverse_cons, List.reverse_cons]
    exact paired_app (stl_rev h2) (.cons h1 .nil)
theorem dt_tupU {xs : List V} {st : St'} (h : EvU te σ H xs) (hS : StL K H xs st) (hl : ∀ s ∈ st, s.1.length ≤ 1000) (hn : st.length ≤ 1000) : EvDt K A te σ H (.tup (st.map dOf)) := fun H1 e Q q =>
  h H1 e _ fun p H2 hp e2 h2 => q (.ref p) H2 e2 (dt_stu (st_of h2) (hS.mono (e.trans e2)) hl hn)
/-! ### the law -/
def sp_law (K : PySem.W.Frag) (A : Ad) : Sp := fun vs H Q _ => ∃ (a : Addr) (ns : List Int), vs = [.ref a] ∧ SqL K H a (ns.map V.int) ∧ ns.length ≤ 63 ∧ ∀ H', Q (.bl true) H'
def t_law (K : PySem.W.Frag) (A : Ad) : TS :=
  (tSeq (tFor (iTup K (tTup (tCons (tC (.int 1)) (tCons (tC (.int 2)) (tCons (tC (.int 3)) tNil))))) (gName 1) (tFor (iList K (tCall (sp__law_words K A) [] E0 (tCons (tVar 1) tNil))) (gName 2) (tFor (iTup K (tTup (tCons (tC (.str "0")) (tCons (tC (.str "1")) tNil)))) (gName 3) (tSeq (tAsg (tIf (tB (tCall (sp__law_is_rule K A) [] E0 (tCons (tTup (tCons (tC (.str "0110")) (tCons (tLst (tCons (tTup (tCons (tVar 2) (tCons (tVar 3) tNil))) tNil)) tNil))) tNil))) (tC (.str "let")) (tC (.str "endless"))) (gName 4))
    (tIfS (tTest (tOp rNe (tCall (sp__law_word_of K A) [] E0 (tCons (tLst (tCons (tTup (tCons (tVar 2) (tCons (tVar 3) tNil))) tNil)) tNil)) (tVar 4))) (tRet (tC (.bl false))) tNext)))))
    (tSeq (tFor (iRng1 (tCons (tCB rMax2 (tCons (tC (.int 2)) (tCons (tCB rMinT (tCons (tC (.int 5)) (tCons (tCB (rLenS K) (tCons (tVar 0) tNil)) tNil))) tNil))) tNil)) (gName 5) (tSeq (tAsg (tCall (sp__law_seed K A) [] E0 (tCons (tVar 0) (tCons (tVar 5) tNil))) (gName 6))
    (tFor (iRng1 (tCons (tC (.int 14)) tNil)) (gName 7) (tSeq (tAsg (tLc (iRng1 (tCons (tC (.int 2)) tNil)) (gName 9) tYes (tTup (tCons (tCall (sp__law_word K A) [] E0 (tCons (tVar 6) (tCons (tC (.int 1)) (tCons (tC (.int 4)) tNil)))) (tCons (tCall (sp__law_one_of K A) [] E0 (tCons (tVar 6) (tCons (tLst (tCons (tC (.str "0")) (tCons (tC (.str "1")) tNil))) tNil))) tNil))) [9]) (gName 8))
    (tIfS (tB (tCall (sp__law_is_parted K A) [] E0 (tCons (tVar 8) tNil))) (tSeq (tAsg (tIf (tB (tCall (sp__law_is_rule K A) [] E0 (tCons (tTup (tCons (tC (.str "0110")) (tCons (tVar 8) tNil))) tNil))) (tC (.str "let")) (tC (.str "endless"))) (gName 4))
    (tIfS (tOr (tTest (tOp rNe (tCall (sp__law_word_of K A) [] E0 (tCons (tVar 8) tNil)) (tVar 4))) (tTest (tOp rNe (tCall (sp__law_word_of K A) [] E0 (tCons (tCB (rTupleOf K) (tCons (tRevS K (tVar 8) (tOp rSubI (tC (.int 0)) (tC (.int 1)))) tNil)) tNil)) (tVar 4)))) (tRet (tC (.bl false))) tNext)) tNext)))))
    (tRet (tAndV (tOp rEq (tCall (sp__law_word_of K A) [] E0 (tCons (tLst (tCons (tTup (tCons (tC (.str "111")) (tCons (tC (.str "0")) tNil))) tNil)) tNil)) (tC (.str "let"))) (tOp rEq (tCall (sp__law_word_of K A) [] E0 (tCons (tLst (tCons (tTup (tCons (tC (.str "1")) (tCons (tC (.str "0")) tNil))) (tCons (tTup (tCons (tC (.str "10")) (tCons (tC (.str "0")) tNil))) tNil))) tNil)) (tC (.str "let")))))))
theorem S_111 : S [true, true, true] = ("111" : Str) := by decide +kernel
theorem S_10 : S [true, false] = ("10" : Str) := by decide +kernel
theorem due_is {σ : L2.St} {st : St'} {te : TE} (h : EvDt K A te σ H (.tup [.str "0110", .lst (st.map dOf)])) (h1 : st.length ≤ 1000) (h2 : ∀ s ∈ st, s.1.length ≤ 1000) : Ev (tIf (tB (tCall (sp__law_is_rule K A) [] E0 (tCons te tNil))) (tC (.str "let")) (tC (.str "endless"))) σ H (.str (dueS (lawRule st))) :=
  ev_if (et_B (ev_is_ruleD h h1 h2)) (fun hb => ev_is ev_c (by rw [hb]; rfl)) (fun hb => ev_is ev_c (by rw [hb]; rfl))
theorem small_st {st : St'} {d : Dt} (hd : stuffsOf d = some st) (h4 : ∀ s ∈ st, s.1.length ≤ 4) : ∀ st', stuffsOf d = some st' → ∀ s ∈ st', s.1.length ≤ 10 := fun st' h s hs => by
  rw [hd] at h
  cases h
  have := h4 s hs
  omega
theorem pure_law (T : Tx K A) (vs : List V) (H : Hp) (Q : VK) (E : XK) (h : sp_law K A vs H Q E) : t_law K A { nx := fun _ H' => Q .non H', rt := Q } (start ["_law_script", "_law_size", "_law_pattern", "_law_bit", "_law_due", "_law_k", "_law_box", "_law_turn", "_law_stuffs", "_law_more"] vs) H := by
  obtain ⟨a, ns, rfl, hS, hlen, k⟩ := h
  have hnl : (ns.map V.int).length = ns.length := List.length_map ..
  -- for size in (1, 2, 3)
  refine q_forU (xs := [.int 1, .int 2, .int 3]) (eu_tup (ea_cons ev_c (ea_cons ev_c (ea_cons ev_c ea_nil))) (by show 3 ≤ 100000; decide))
    (fun p i σ' H' => Ex H H' ∧ H' p = some (.tup [.int 1, .int 2, .int 3]) ∧ ∃ s1 s2 s3 s4, σ' = [some (.ref a), s1, s2, s3, s4, none, none, none, none, none])
    (fun p H1 hp e1 h1 => ⟨e1, h1, none, none, none, none, rfl⟩) (fun p i σ' H' _ w => st_of w.2.1) ?_ ?_
  · rintro p i x σ' H1 hx ⟨e1, h1, s1, s2, s3, s4, rfl⟩
    obtain ⟨n, hn1, hn3, rfl⟩ : ∃ n : Nat, 1 ≤ n ∧ n ≤ 3 ∧ x = .int (n : Int) := by
      match i, hx with
      | 0, hx => exact ⟨1, by decide, by decide, (Option.some.inj hx).symm⟩
      | 1, hx => exact ⟨2, by decide, by decide, (Option.some.inj hx).symm⟩
      | 2, hx => exact ⟨3, by decide, by decide, (Option.some.inj hx).symm⟩
      | i + 3, hx => exact absurd hx (by simp)
    refine g_name ?_
    -- for pattern in words(size)
    refine s_forNL (xs := (wordsW n).map fun w => V.str (S w)) (el_words (ea_cons (ev_var rfl) ea_nil) (by omega))
      (fun q j σ' H' => (Ex H H' ∧ H' p = some (.tup [.int 1, .int 2, .int 3])) ∧ H' q = some (.lst ((wordsW n).map fun w => V.str (S w))) ∧ ∃ s2 s3 s4, σ' = [some (.ref a), some (.int (n : Int)), s2, s3, s4, none, none, none, none, none])
      (fun q H2 hq e2 h2 => ⟨⟨e1.trans e2, e2 _ _ h1⟩, h2, _, _, _, rfl⟩) (fun q j σ' H' _ w => sq_of w.2.1) ?_ ?_
    · rintro q j x σ' H2 hx ⟨⟨e2, hp2⟩, hq2, s2, s3, s4, rfl⟩
      obtain ⟨w, hw, rfl⟩ : ∃ w, (wordsW n)[j]? = some w ∧ x = V.str (S w) := by
        rw [List.getElem?_map] at hx
        cases z : (wordsW n)[j]? with
        | none => rw [z] at hx; cases hx
        | some w => rw [z] at hx; exact ⟨w, rfl, (Option.some.inj hx).symm⟩
      have hwl := wordsW_mem (List.mem_of_getElem? hw)
      refine g_name ?_
      -- for bit in ("0", "1")
      refine s_forU (xs := [.str (S [false]), .str (S [true])]) (eu_tup (ea_cons (ev_lit S_0.symm) (ea_cons (ev_lit S_1.symm) ea_nil)) (by show 2 ≤ 100000; decide))
        (fun r l σ' H' => (Ex H H' ∧ H' p = some (.tup [.int 1, .int 2, .int 3]) ∧ H' q = some (.lst ((wordsW n).map fun w => V.str (S w)))) ∧ H' r = some (.tup [.str (S [false]), .str (S [true])]) ∧ ∃ s3 s4, σ' = [some (.ref a), some (.int (n : Int)), some (.str (S w)), s3, s4, none, none, none, none, none])
        (fun r H3 hr e3 h3 => ⟨⟨e2.trans e3, e3 _ _ hp2, e3 _ _ hq2⟩, h3, _, _, rfl⟩) (fun r l σ' H' _ w => st_of w.2.1) ?_ ?_
      · rintro r l x σ' H3 hx ⟨⟨e3, hp3, hq3⟩, hr3, s3, s4, rfl⟩
        obtain ⟨c, rfl⟩ : ∃ c : Bool, x = .str (S [c]) := by
          match l, hx with
          | 0, hx => exact ⟨false, (Option.some.inj hx).symm⟩
          | 1, hx => exact ⟨true, (Option.some.inj hx).symm⟩
          | l + 2, hx => exact absurd hx (by simp)
        refine g_name ?_
        have hne : w ≠ [] := by rintro rfl; simp at hwl; omega
        have h4 : ∀ s ∈ [(w, c)], s.1.length ≤ 4 := fun s hs => by rw [List.mem_singleton.mp hs]; show w.length ≤ 4; omega
        have hso : stuffsOf (.lst ([(w, c)].map dOf)) = some [(w, c)] := stuffsL_d fun s hs => by rw [List.mem_singleton.mp hs]; exact hne
        have hpart : parted [(w, c)] = true := rfl
        have lstE : ∀ {σ : L2.St} {H : Hp}, σ[2]? = some (some (.str (S w))) → σ[3]? = some (some (.str (S [c]))) → EvDt K A (tLst (tCons (tTup (tCons (tVar 2) (tCons (tVar 3) tNil))) tNil)) σ H (.lst ([(w, c)].map dOf)) := fun q2 q3 =>
          dt_lst (ds_cons (dt_tup (ds_cons (dt_str (s := S w) (by rw [S_len]; omega) (ev_var q2)) (ds_cons (dt_str (by rw [S_len, List.length_singleton]; omega) (ev_var q3)) ds_nil)) (by show 2 ≤ 1000; decide)) ds_nil) (by show 1 ≤ 1000; decide)
        refine q_asg (v := .str (if lawRule [(w, c)] = true then "let" else "endless")) (due_is (dt_tup (ds_cons (dt_str (by decide +kernel) ev_c) (ds_cons (lstE rfl rfl) ds_nil)) (by show 2 ≤ 1000; decide)) (by show 1 ≤ 1000; decide) (fun s hs => by have := h4 s hs; omega)) fun H4 e4 => ?_
        have hword := word_law hpart h4 hso
        refine s_when (et_test (ev_neT (y := dueS (lawRule [(w, c)])) (ev_word_ofD (lstE rfl rfl) (small_st hso h4)) (ev_var rfl))) (fun hb H5 e5 => ?_) (fun hb H5 e5 => ?_)
        · rw [hword] at hb
          simp at hb
        · have ex := e4.trans e5
          exact ⟨⟨e3.trans ex, ex _ _ hp3, ex _ _ hq3⟩, ex _ _ hr3, _, _, rfl⟩
      · rintro r σ' H3 ⟨⟨e3, hp3, hq3⟩, hr3, s3, s4, rfl⟩
        exact ⟨⟨e3, hp3⟩, hq3, _, _, _, rfl⟩
    · rintro q σ' H2 ⟨⟨e2, hp2⟩, hq2, s2, s3, s4, rfl⟩
      exact ⟨e2, hp2, _, _, _, _, rfl⟩
  · rintro p σ' H1 ⟨e1, h1, s1, s2, s3, s4, rfl⟩
    -- for k in range(max(2, min(5, len(script))))
    have hcount : (if (if (ns.length : Int) < 5 then (ns.length : Int) else 5) > 2 then (if (ns.length : Int) < 5 then (ns.length : Int) else 5) else 2) = ((max 2 (min 5 ns.length) : Nat) : Int) := by omega
    refine q_for (n := max 2 (min 5 ns.length)) (G := fun _ => True) (Y := YFn fun i => .int (i : Nat)) (src_rng1 (ea_cons (ev_is (ev_max2 ev_c (ev_min2 ev_c (ev_is (ev_lenSL (ev_var rfl) (ex_l e1 hS)) (by rw [hnl])))) (by rw [← hcount])) ea_nil) (by omega))
      (fun i σ' H' => Ex H H' ∧ ∃ s1 s2 s3 s4 s5 s6 s7 s8 s9, σ' = [some (.ref a), s1, s2, s3, s4, s5, s6, s7, s8, s9])
      (fun H2 e2 => ⟨e1.trans e2, _, _, _, _, _, _, _, _, _, rfl⟩) (fun _ _ _ _ _ => trivial) ?_ ?_
    · rintro i x σ' Ha Hb hi ⟨ea, s1, s2, s3, s4, s5, s6, s7, s8, s9, rfl⟩ ⟨rfl, rfl⟩
      refine g_name ?_
      -- box = seed(script, k)
      refine q_asgR ⟨_, rfl, _, rfl, a, ns, i, rfl, ex_l ea hS, hlen, by omega, fun b H2 hb e2 B => ?_⟩
      have hbH : H b = none := fresh_back ea hb
      have exH : ∀ {H'}, Ex (hole b H2) H' → Ex H H' := fun {H'} e c o h => e c o (by
        have hne : c ≠ b := by rintro rfl; rw [hbH] at h; cases h
        rw [hole_ne hne]
        exact e2 _ _ (ea _ _ h))
      -- for turn in range(14)
      refine s_for (n := 14) (G := fun _ => True) (Y := YFn fun i => .int (i : Nat)) (src_rng1 (k := 14) (ea_cons ev_c ea_nil) (by decide))
        (fun j σ' H' => (Ex (hole b H2) H' ∧ BoxAt H' b) ∧ ∃ s1 s2 s3 s4 s7 s8 s9, σ' = [some (.ref a), s1, s2, s3, s4, some (.int (i : Nat)), some (.ref b), s7, s8, s9])
        (fun H3 e3 => ⟨⟨hole_ex.trans e3, B.mono e3⟩, _, _, _, _, _, _, _, rfl⟩) (fun _ _ _ _ _ => trivial) ?_ ?_
      · rintro j x σ' Hc Hd hj ⟨⟨ec, Bc⟩, s1, s2, s3, s4, s7, s8, s9, rfl⟩ ⟨rfl, rfl⟩
        refine g_name ?_
        -- stuffs = [(word, bit), (word, bit)]
        refine q_asgR ⟨2, rfl, by decide, by decide, fun Dl hD => ?_⟩
        refine lc_box (i := 9) (f := fun j => V.int (0 + (j : Nat))) (fun v H' => PairIn K 1 4 v (hole b H')) (fun v H H' e h => pairIn_mono e h) (fun v H acc acc' hD h => pairIn_upd hD h) walk_range Bc hD (by decide) (fun _ => rfl) (fun l H3 hl e3 B3 => eb_pair (few := 1) (many := 4) rfl (fun _ => ev_c) (fun _ => ev_c) (by decide) (by decide)) fun H3 xs h3 hl3 hx3 e3 B3 => ?_
        obtain ⟨st, hSt, hst⟩ := pairs_of hx3
        have hSt3 : StL K H3 xs st := hSt.mono hole_ex
        have hn2 := stl_len hSt3
        have h2 : ((2 : Int).toNat) = 2 := rfl
        rw [h2] at hl3
        obtain ⟨s, t, rfl⟩ : ∃ s t, st = [s, t] := by
          rw [hl3] at hn2
          match st, hn2 with
          | [s, t], _ => exact ⟨s, t, rfl⟩
        have h4 : ∀ s' ∈ [s, t], s'.1.length ≤ 4 := fun s' hs' => (hst s' hs').2
        have hne : ∀ s' ∈ [s, t], s'.1 ≠ [] := fun s' hs' q => by
          have := (hst s' hs').1
          rw [q] at this
          exact absurd this (by decide)
        have hmore : ∀ s' ∈ [s, t], s'.1.length ≤ 1000 := fun s' hs' => by have := h4 s' hs'; omega
        have exq := hole_trans ec e3
        have next : ∀ {H' : Hp} {s4'}, Ex H3 H' → (Ex (hole b H2) H' ∧ BoxAt H' b) ∧ ∃ q1 q2 q3 q4 q7 q8 q9, [some (V.ref a), s1, s2, s3, s4', some (.int (i : Nat)), some (.ref b), some (.int (j : Nat)), some (.ref Dl), s9] = [some (V.ref a), q1, q2, q3, q4, some (.int (i : Nat)), some (.ref b), q7, q8, q9] := fun e => ⟨⟨exq.trans e, B3.mono e⟩, _, _, _, _, _, _, _, rfl⟩
        refine s_when (b := parted [s, t]) (et_B (ev_call (vs := [.ref Dl]) (ea_cons (ev_var rfl) ea_nil) fun H4 e4 Q q E => ⟨Dl, xs, s, t, rfl, sq_of (e4 _ _ h3), hSt3.mono e4, q⟩)) (fun hb H4 e4 => ?_) (fun hb H4 e4 => next e4)
        have hrev : parted [s, t].reverse = true := by
          show parted [t, s] = true
          rw [parted_two, Bool.and_comm, ← parted_two]
          exact hb
        have hso : stuffsOf (.lst ([s, t].map dOf)) = some [s, t] := stuffsL_d hne
        have hsr : stuffsOf (.tup ([s, t].reverse.map dOf)) = some [s, t].reverse := stuffsL_d fun s' hs' => hne s' (List.mem_reverse.mp hs')
        have h4r : ∀ s' ∈ [s, t].reverse, s'.1.length ≤ 4 := fun s' hs' => h4 s' (List.mem_reverse.mp hs')
        refine q_asg (v := .str (if lawRule [s, t] = true then "let" else "endless")) (due_is (dt_tup (ds_cons (dt_str (by decide +kernel) ev_c) (ds_cons (dt_ev (ev_var rfl) (dt_stl (sq_of (e4 _ _ h3)) (hSt3.mono e4) hmore (by show 2 ≤ 1000; decide))) ds_nil)) (by show 2 ≤ 1000; decide)) (by show 2 ≤ 1000; decide) hmore) fun H5 e5 => ?_
        have e45 := e4.trans e5
        have hw1 := word_law hb h4 hso
        have hw2 := word_law hrev h4r hsr
        rw [law_perm (List.reverse_perm _) hb hrev h4] at hw2
        refine s_when (et_or (et_test (ev_neT (y := dueS (lawRule [s, t])) (ev_word_ofD (dt_ev (ev_var rfl) (dt_stl (sq_of (e45 _ _ h3)) (hSt3.mono e45) hmore (by show 2 ≤ 1000; decide))) (small_st hso h4)) (ev_var rfl))) fun _ => et_test (ev_neT (y := dueS (lawRule [s, t])) (ev_word_ofD (dt_tupU (eu_tupleOf (el_rev (ev_var rfl) (ev_is (ev_subI ev_c ev_c) rfl) (sq_of (e45 _ _ h3)))) (stl_rev (hSt3.mono e45)) (fun s' hs' => hmore s' (List.mem_reverse.mp hs')) (by show 2 ≤ 1000; decide)) (small_st hsr h4r)) (ev_var rfl))) (fun hb6 H6 e6 => ?_) (fun hb6 H6 e6 => next (e45.trans e6))
        rw [hw1, hw2] at hb6
        simp at hb6
      · rintro σ' H3 ⟨⟨e3, B3⟩, s1, s2, s3, s4, s7, s8, s9, rfl⟩
        exact ⟨exH e3, _, _, _, _, _, _, _, _, _, rfl⟩
    · rintro σ' H2 ⟨e2, s1, s2, s3, s4, s5, s6, s7, s8, s9, rfl⟩
      have w1 : wordOfD (.lst ([([true, true, true], false)].map dOf)) = "let" := by
        rw [word_law (d := .lst ([([true, true, true], false)].map dOf)) (st := [([true, true, true], false)]) rfl (fun s hs => by rw [List.mem_singleton.mp hs]; decide) (show stuffsL ([([true, true, true], false)].map dOf) = _ from stuffsL_d fun s hs => by rw [List.mem_singleton.mp hs]; decide)]
        rw [show lawRule _ = true by decide +kernel]
        rfl
      have w2 : wordOfD (.lst ([([true], false), ([true, false], false)].map dOf)) = "let" := by
        rw [word_law (d := .lst ([([true], false), ([true, false], false)].map dOf)) (st := [([true], false), ([true, false], false)]) (by decide +kernel) (by decide) (show stuffsL ([([true], false), ([true, false], false)].map dOf) = _ from stuffsL_d (by decide))]
        rw [show lawRule _ = true by decide +kernel]
        rfl
      have dw : ∀ {σ : L2.St} {H : Hp} {x y : Str} (w : W) (c : Bool), x = S w → y = S [c] → w.length ≤ 4 → EvDt K A (tTup (tCons (tC (.str x)) (tCons (tC (.str y)) tNil))) σ H (dOf (w, c)) := fun w c hx hy hl =>
        dt_tup (ds_cons (dt_str (s := S w) (by rw [S_len]; omega) (ev_lit hx)) (ds_cons (dt_str (s := S [c]) (by rw [S_len, List.length_singleton]; omega) (ev_lit hy)) ds_nil)) (by show 2 ≤ 1000; decide)
      refine s_ret (v := .bl (decide (wordOfD (.lst ([([true, true, true], false)].map dOf)) = "let") && decide (wordOfD (.lst ([([true], false), ([true, false], false)].map dOf)) = "let"))) (ev_andV (ev_eqT (ev_word_ofD (dt_lst (ds_cons (dw [true, true, true] false S_111.symm S_0.symm (by decide)) ds_nil) (by show 1 ≤ 1000; decide)) ?_) ev_c) fun _ => ev_eqT (ev_word_ofD (dt_lst (ds_cons (dw [true] false S_1.symm S_0.symm (by decide)) (ds_cons (dw [true, false] false S_10.symm S_0.symm (by decide)) ds_nil)) (by show 2 ≤ 1000; decide)) ?_) ev_c) fun H3 e3 => ?_
      · exact small_st (st := [([true, true, true], false)]) (stuffsL_d fun s hs => by rw [List.mem_singleton.mp hs]; decide) (fun s hs => by rw [List.mem_singleton.mp hs]; decide)
      · exact small_st (st := [([true], false), ([true, false], false)]) (stuffsL_d (by decide)) (by decide)
      · rw [w1, w2]
        exact k H3
theorem len_law : ∀ vs H Q E, sp_law K A vs H Q E → vs.length = 1 := by
  rintro vs H Q E ⟨a, ns, rfl, _⟩
  rfl
end
end Fl

namespace Fl
open PySem L2 Evl TL StX PySem.W
def top (i : Nat) : Stmt := PySem.Challenge.pw_unseenflips_k07_rules_without_end.main.body.getD i (.Pass ⟨0, 0, 0, 0⟩)
abbrev s_is_word : Stmt := top 8
theorem sc_is_word : FnScope (["value", "sign"] : List Str) (["value"] : List Str) (defScope s_is_word) := ⟨rfl, rfl, rfl, by decide +kernel, rfl, by decide +kernel, by decide +kernel⟩
abbrev s_is_bit : Stmt := top 9
theorem sc_is_bit : FnScope (["value"] : List Str) (["value"] : List Str) (defScope s_is_bit) := ⟨rfl, rfl, rfl, by decide +kernel, rfl, by decide +kernel, by decide +kernel⟩
abbrev s_is_sequence : Stmt := top 7
theorem sc_is_sequence : FnScope (["value"] : List Str) (["value"] : List Str) (defScope s_is_sequence) := ⟨rfl, rfl, rfl, by decide +kernel, rfl, by decide +kernel, by decide +kernel⟩
abbrev s_is_stuff : Stmt := top 12
theorem sc_is_stuff : FnScope (["value"] : List Str) (["value"] : List Str) (defScope s_is_stuff) := ⟨rfl, rfl, rfl, by decide +kernel, rfl, by decide +kernel, by decide +kernel⟩
abbrev s_are_stuffs : Stmt := top 13
theorem sc_are_stuffs : FnScope (["value", "at", "stuff", "rest", "pattern", "bit", "one"] : List Str) (["value"] : List Str) (defScope s_are_stuffs) := ⟨rfl, rfl, rfl, by decide +kernel, rfl, by decide +kernel, by decide +kernel⟩
abbrev s_tail : Stmt := top 10
theorem sc_tail : FnScope (["line", "size"] : List Str) (["line", "size"] : List Str) (defScope s_tail) := ⟨rfl, rfl, rfl, by decide +kernel, rfl, by decide +kernel, by decide +kernel⟩
abbrev s_Rule_longest : Stmt := inClass (top 15) 2
theorem sc_Rule_longest : FnScope (["self", "pattern", "bit"] : List Str) (["self"] : List Str) (defScope s_Rule_longest) := ⟨rfl, rfl, rfl, by decide +kernel, rfl, by decide +kernel, by decide +kernel⟩
abbrev s_Rule_put : Stmt := inClass (top 15) 4
theorem sc_Rule_put : FnScope (["self", "line", "pattern", "bit"] : List Str) (["self", "line"] : List Str) (defScope s_Rule_put) := ⟨rfl, rfl, rfl, by decide +kernel, rfl, by decide +kernel, by decide +kernel⟩
abbrev s_Rule_put_in : Stmt := inClass (top 15) 5
theorem sc_Rule_put_in : FnScope (["self", "line", "found", "known", "bit", "standing"] : List Str) (["self", "line"] : List Str) (defScope s_Rule_put_in) := ⟨rfl, rfl, rfl, by decide +kernel, rfl, by decide +kernel, by decide +kernel⟩
abbrev s_Rule_is_endless : Stmt := inClass (top 15) 6
theorem sc_Rule_is_endless : FnScope (["self", "waiting", "known", "at", "bit", "line", "more", "standing"] : List Str) (["self"] : List Str) (defScope s_Rule_is_endless) := ⟨rfl, rfl, rfl, by decide +kernel, rfl, by decide +kernel, by decide +kernel⟩
abbrev s_Rule___init__ : Stmt := inClass (top 15) 0
theorem sc_Rule___init__ : FnScope (["self", "flag", "stuffs"] : List Str) (["self", "flag", "stuffs"] : List Str) (defScope s_Rule___init__) := ⟨rfl, rfl, rfl, by decide +kernel, rfl, by decide +kernel, by decide +kernel⟩
abbrev s__law_seed : Stmt := top 17
theorem sc__law_seed : FnScope (["_law_script", "_law_k", "_law_cell"] : List Str) (["_law_script", "_law_k"] : List Str) (defScope s__law_seed) := ⟨rfl, rfl, rfl, by decide +kernel, rfl, by decide +kernel, by decide +kernel⟩
abbrev s__law_choose : Stmt := top 18
theorem sc__law_choose : FnScope (["_law_box", "_law_many", "_law_digit", "_law_raw"] : List Str) (["_law_box", "_law_many"] : List Str) (defScope s__law_choose) := ⟨rfl, rfl, rfl, by decide +kernel, rfl, by decide +kernel, by decide +kernel⟩
abbrev s__law_one_of : Stmt := top 19
theorem sc__law_one_of : FnScope (["_law_box", "_law_some"] : List Str) (["_law_box", "_law_some"] : List Str) (defScope s__law_one_of) := ⟨rfl, rfl, rfl, by decide +kernel, rfl, by decide +kernel, by decide +kernel⟩
abbrev s__law_word : Stmt := top 20
theorem sc__law_word : FnScope (["_law_box", "_law_few", "_law_many", "_law_turn"] : List Str) (["_law_box", "_law_few", "_law_many"] : List Str) (defScope s__law_word) := ⟨rfl, rfl, rfl, by decide +kernel, rfl, by decide +kernel, by decide +kernel⟩
abbrev s__law_words : Stmt := top 21
theorem sc__law_words : FnScope (["_law_size", "_law_found", "_law_turn", "_law_word_here"] : List Str) (["_law_size"] : List Str) (defScope s__law_words) := ⟨rfl, rfl, rfl, by decide +kernel, rfl, by decide +kernel, by decide +kernel⟩
abbrev s__law_put : Stmt := top 22
theorem sc__law_put : FnScope (["_law_rule", "_law_line", "_law_some", "_law_pattern", "_law_bit"] : List Str) (["_law_rule", "_law_line"] : List Str) (defScope s__law_put) := ⟨rfl, rfl, rfl, by decide +kernel, rfl, by decide +kernel, by decide +kernel⟩
abbrev s__law_is_rule : Stmt := top 23
theorem sc__law_is_rule : FnScope (["_law_rule", "_law_names", "_law_at", "_law_one", "_law_spot", "_law_other_one", "_law_known", "_law_waiting", "_law_behind", "_law_bit", "_law_line", "_law_turn", "_law_there", "_law_pattern"] : List Str) (["_law_rule"] : List Str) (defScope s__law_is_rule) := ⟨rfl, rfl, rfl, by decide +kernel, rfl, by decide +kernel, by decide +kernel⟩
abbrev s__law_word_of : Stmt := top 24
theorem sc__law_word_of : FnScope (["_law_stuffs", "_law_found", "e"] : List Str) (["_law_stuffs"] : List Str) (defScope s__law_word_of) := ⟨rfl, rfl, rfl, by decide +kernel, rfl, by decide +kernel, by decide +kernel⟩
abbrev s__law_is_parted : Stmt := top 25
theorem sc__law_is_parted : FnScope (["_law_stuffs", "_law_names", "_law_pattern", "_law_bit"] : List Str) (["_law_stuffs"] : List Str) (defScope s__law_is_parted) := ⟨rfl, rfl, rfl, by decide +kernel, rfl, by decide +kernel, by decide +kernel⟩
abbrev s_law : Stmt := top 26
theorem sc_law : FnScope (["_law_script", "_law_size", "_law_pattern", "_law_bit", "_law_due", "_law_k", "_law_box", "_law_turn", "_law_stuffs", "_law_more"] : List Str) (["_law_script"] : List Str) (defScope s_law) := ⟨rfl, rfl, rfl, by decide +kernel, rfl, by decide +kernel, by decide +kernel⟩
structure Fs where
  t_BITS : Tok
  f_is_word : Addr
  d_is_word : FuncData
  f_is_bit : Addr
  d_is_bit : FuncData
  f_is_sequence : Addr
  d_is_sequence : FuncData
  f_is_stuff : Addr
  d_is_stuff : FuncData
  f_are_stuffs : Addr
  d_are_stuffs : FuncData
  f_tail : Addr
  d_tail : FuncData
  f_Rule_longest : Addr
  d_Rule_longest : FuncData
  p_Rule_longest : Addr
  f_Rule_put : Addr
  d_Rule_put : FuncData
  f_Rule_put_in : Addr
  d_Rule_put_in : FuncData
  f_Rule_is_endless : Addr
  d_Rule_is_endless : FuncData
  f_Rule___init__ : Addr
  d_Rule___init__ : FuncData
  e_Rule___init__ : Addr
  f__law_seed : Addr
  d__law_seed : FuncData
  f__law_choose : Addr
  d__law_choose : FuncData
  f__law_one_of : Addr
  d__law_one_of : FuncData
  f__law_word : Addr
  d__law_word : FuncData
  f__law_words : Addr
  d__law_words : FuncData
  f__law_put : Addr
  d__law_put : FuncData
  f__law_is_rule : Addr
  d__law_is_rule : FuncData
  f__law_word_of : Addr
  d__law_word_of : FuncData
  f__law_is_parted : Addr
  d__law_is_parted : FuncData
  f_law : Addr
  d_law : FuncData
  f_InvalidRule___init__ : Addr
structure Txt (P : Program) (K : PySem.W.Frag) (mg : Str → Option Value) (A : Ad) (B : Fs) : Prop where
  tx : Tx K A
  m_BITS : mg "BITS" = some (.str "01" B.t_BITS)
  no_abs : mg "abs" = none
  no_all : mg "all" = none
  no_any : mg "any" = none
  no_enumerate : mg "enumerate" = none
  no_int : mg "int" = none
  no_isinstance : mg "isinstance" = none
  no_len : mg "len" = none
  no_list : mg "list" = none
  no_max : mg "max" = none
  no_min : mg "min" = none
  no_range : mg "range" = none
  no_sorted : mg "sorted" = none
  no_str : mg "str" = none
  no_tuple : mg "tuple" = none
  m_Rule : mg "Rule" = some (.ref A.C_Rule)
  mk_Rule : Mk K A.C_Rule B.f_Rule___init__
  b_is_word : L2.Binds K B.d_is_word (["value"] : List Str) []
  k_is_word : keepIn K (.ref B.f_is_word) = true
  F_is_word : Fun K "is_word" "is_word" s_is_word B.f_is_word B.d_is_word
  m_is_word : mg "is_word" = some (.ref B.f_is_word)
  b_is_bit : L2.Binds K B.d_is_bit (["value"] : List Str) []
  k_is_bit : keepIn K (.ref B.f_is_bit) = true
  F_is_bit : Fun K "is_bit" "is_bit" s_is_bit B.f_is_bit B.d_is_bit
  m_is_bit : mg "is_bit" = some (.ref B.f_is_bit)
  b_is_sequence : L2.Binds K B.d_is_sequence (["value"] : List Str) []
  k_is_sequence : keepIn K (.ref B.f_is_sequence) = true
  F_is_sequence : Fun K "is_sequence" "is_sequence" s_is_sequence B.f_is_sequence B.d_is_sequence
  m_is_sequence : mg "is_sequence" = some (.ref B.f_is_sequence)
  b_is_stuff : L2.Binds K B.d_is_stuff (["value"] : List Str) []
  k_is_stuff : keepIn K (.ref B.f_is_stuff) = true
  F_is_stuff : Fun K "is_stuff" "is_stuff" s_is_stuff B.f_is_stuff B.d_is_stuff
  m_is_stuff : mg "is_stuff" = some (.ref B.f_is_stuff)
  b_are_stuffs : L2.Binds K B.d_are_stuffs (["value"] : List Str) []
  k_are_stuffs : keepIn K (.ref B.f_are_stuffs) = true
  F_are_stuffs : Fun K "are_stuffs" "are_stuffs" s_are_stuffs B.f_are_stuffs B.d_are_stuffs
  m_are_stuffs : mg "are_stuffs" = some (.ref B.f_are_stuffs)
  b_tail : L2.Binds K B.d_tail (["line", "size"] : List Str) []
  k_tail : keepIn K (.ref B.f_tail) = true
  F_tail : Fun K "tail" "tail" s_tail B.f_tail B.d_tail
  m_tail : mg "tail" = some (.ref B.f_tail)
  b_Rule_longest : L2.Binds K B.d_Rule_longest (["self"] : List Str) []
  k_Rule_longest : keepIn K (.ref B.f_Rule_longest) = true
  F_Rule_longest : Fun K "longest" "Rule.longest" s_Rule_longest B.f_Rule_longest B.d_Rule_longest
  pr_Rule_longest : PropOf K A.C_Rule "longest" B.p_Rule_longest B.f_Rule_longest
  b_Rule_put : L2.Binds K B.d_Rule_put (["self", "line"] : List Str) []
  k_Rule_put : keepIn K (.ref B.f_Rule_put) = true
  F_Rule_put : Fun K "put" "Rule.put" s_Rule_put B.f_Rule_put B.d_Rule_put
  me_Rule_put : Meth K A.C_Rule "put" B.f_Rule_put
  b_Rule_put_in : L2.Binds K B.d_Rule_put_in (["self", "line"] : List Str) []
  k_Rule_put_in : keepIn K (.ref B.f_Rule_put_in) = true
  F_Rule_put_in : Fun K "put_in" "Rule.put_in" s_Rule_put_in B.f_Rule_put_in B.d_Rule_put_in
  me_Rule_put_in : Meth K A.C_Rule "put_in" B.f_Rule_put_in
  b_Rule_is_endless : L2.Binds K B.d_Rule_is_endless (["self"] : List Str) []
  k_Rule_is_endless : keepIn K (.ref B.f_Rule_is_endless) = true
  F_Rule_is_endless : Fun K "is_endless" "Rule.is_endless" s_Rule_is_endless B.f_Rule_is_endless B.d_Rule_is_endless
  me_Rule_is_endless : Meth K A.C_Rule "is_endless" B.f_Rule_is_endless
  b_Rule___init__ : L2.Binds K B.d_Rule___init__ (["self", "flag", "stuffs"] : List Str) []
  k_Rule___init__ : keepIn K (.ref B.f_Rule___init__) = true
  F_Rule___init__ : FunD K "__init__" "Rule.__init__" (defArgs s_Rule___init__) (defBody s_Rule___init__) (defScope s_Rule___init__) [.ref B.e_Rule___init__] [] B.f_Rule___init__ B.d_Rule___init__
  me_Rule___init__ : Meth K A.C_Rule "__init__" B.f_Rule___init__
  b__law_seed : L2.Binds K B.d__law_seed (["_law_script", "_law_k"] : List Str) []
  k__law_seed : keepIn K (.ref B.f__law_seed) = true
  F__law_seed : Fun K "_law_seed" "_law_seed" s__law_seed B.f__law_seed B.d__law_seed
  m__law_seed : mg "_law_seed" = some (.ref B.f__law_seed)
  b__law_choose : L2.Binds K B.d__law_choose (["_law_box", "_law_many"] : List Str) []
  k__law_choose : keepIn K (.ref B.f__law_choose) = true
  F__law_choose : Fun K "_law_choose" "_law_choose" s__law_choose B.f__law_choose B.d__law_choose
  m__law_choose : mg "_law_choose" = some (.ref B.f__law_choose)
  b__law_one_of : L2.Binds K B.d__law_one_of (["_law_box", "_law_some"] : List Str) []
  k__law_one_of : keepIn K (.ref B.f__law_one_of) = true
  F__law_one_of : Fun K "_law_one_of" "_law_one_of" s__law_one_of B.f__law_one_of B.d__law_one_of
  m__law_one_of : mg "_law_one_of" = some (.ref B.f__law_one_of)
  b__law_word : L2.Binds K B.d__law_word (["_law_box", "_law_few", "_law_many"] : List Str) []
  k__law_word : keepIn K (.ref B.f__law_word) = true
  F__law_word : Fun K "_law_word" "_law_word" s__law_word B.f__law_word B.d__law_word
  m__law_word : mg "_law_word" = some (.ref B.f__law_word)
  b__law_words : L2.Binds K B.d__law_words (["_law_size"] : List Str) []
  k__law_words : keepIn K (.ref B.f__law_words) = true
  F__law_words : Fun K "_law_words" "_law_words" s__law_words B.f__law_words B.d__law_words
  m__law_words : mg "_law_words" = some (.ref B.f__law_words)
  b__law_put : L2.Binds K B.d__law_put (["_law_rule", "_law_line"] : List Str) []
  k__law_put : keepIn K (.ref B.f__law_put) = true
  F__law_put : Fun K "_law_put" "_law_put" s__law_put B.f__law_put B.d__law_put
  m__law_put : mg "_law_put" = some (.ref B.f__law_put)
  b__law_is_rule : L2.Binds K B.d__law_is_rule (["_law_rule"] : List Str) []
  k__law_is_rule : keepIn K (.ref B.f__law_is_rule) = true
  F__law_is_rule : Fun K "_law_is_rule" "_law_is_rule" s__law_is_rule B.f__law_is_rule B.d__law_is_rule
  m__law_is_rule : mg "_law_is_rule" = some (.ref B.f__law_is_rule)
  b__law_word_of : L2.Binds K B.d__law_word_of (["_law_stuffs"] : List Str) []
  k__law_word_of : keepIn K (.ref B.f__law_word_of) = true
  F__law_word_of : Fun K "_law_word_of" "_law_word_of" s__law_word_of B.f__law_word_of B.d__law_word_of
  m__law_word_of : mg "_law_word_of" = some (.ref B.f__law_word_of)
  b__law_is_parted : L2.Binds K B.d__law_is_parted (["_law_stuffs"] : List Str) []
  k__law_is_parted : keepIn K (.ref B.f__law_is_parted) = true
  F__law_is_parted : Fun K "_law_is_parted" "_law_is_parted" s__law_is_parted B.f__law_is_parted B.d__law_is_parted
  m__law_is_parted : mg "_law_is_parted" = some (.ref B.f__law_is_parted)
  b_law : L2.Binds K B.d_law (["_law_script"] : List Str) []
  k_law : keepIn K (.ref B.f_law) = true
  F_law : Fun K "law" "law" s_law B.f_law B.d_law
  m_law : mg "law" = some (.ref B.f_law)
  ex_InvalidRule : Exc_word.Txt P K mg "InvalidRule" A.C_InvalidRule B.f_InvalidRule___init__
/-- the law's promise, whatever the addresses -/
def sp_top (K : PySem.W.Frag) : Sp := fun vs H Q _ => ∃ (a : Addr) (ns : List Int), vs = [.ref a] ∧ SqL K H a (ns.map V.int) ∧ ns.length ≤ 63 ∧ ∀ H', Q (.bl true) H'
theorem fnok_top {P : Program} {w : World} {K : PySem.W.Frag} {mg : Str → Option Value} {base : Heap} {A : Ad} {k : Nat} {f : Addr} {fd : FuncData} (h : FnOk P w K mg base CX0 k f fd ["_law_script"] (sp_law K A)) : FnOk P w K mg base CX0 k f fd ["_law_script"] (sp_top K) := h
section
variable {P : Program} {w : World} {K : PySem.W.Frag} {mg : Str → Option Value} {base : Heap} {A : Ad} {B : Fs}
theorem ok_is_word (T : Txt P K mg A B) : FnOk P w K mg base CX0 1 B.f_is_word B.d_is_word (["value"] : List Str) (sp_is_word K A) :=
  T.F_is_word.ok sc_is_word len_is_word fun cdv A1 outer s H vs Q E hr h => ⟨t_is_word K A, by exact (pss_one (ps_ret (pe_and (pe_callB call_isi rfl T.no_isinstance (by decide +kernel) (pa_cons (pv 0) (pa_cons (pe_bltn rfl T.no_str (by decide +kernel) rfl) pa_nil))) (pe_one (pe_callB (cr_all rfl) rfl T.no_all (by decide +kernel) (pa_cons (pe_lc (own := [("sign", 1)]) (g := (gName 1)) rfl sc_is_word.nd (pi_str (pv 0)) (blkOk_by (N := (["value", "sign"] : List Str)) (sc := defScope s_is_word) (by decide +kernel)) (fun _ _ _ _ _ => pg_name (i := 1) sc_is_word.nd rfl (Or.inl rfl)) (fun _ _ _ _ _ => pts_nil) (fun _ _ _ _ _ => (pe_cmpR op_inS (pv 1) (pe_glob rfl T.m_BITS ⟨_, rfl⟩) (by rfl)))) pa_nil)))))), pure_is_word T.tx vs H Q E h⟩
theorem ok_is_bit (T : Txt P K mg A B) : FnOk P w K mg base CX0 2 B.f_is_bit B.d_is_bit (["value"] : List Str) (sp_is_bit K A) :=
  T.F_is_bit.ok sc_is_bit len_is_bit fun cdv A1 outer s H vs Q E hr h => ⟨t_is_bit K A, by exact (pss_one (ps_ret (pe_and (pe_call (ok_is_word T) (hr.mono (by decide)) rfl T.m_is_word T.k_is_word T.b_is_word .nil pass0 (pa_cons (pv 0) pa_nil)) (pe_one (pe_cmpR op_eq (pe_callB callLenT rfl T.no_len (by decide +kernel) (pa_cons (pv 0) pa_nil)) pe_int (nomark _)))))), pure_is_bit T.tx vs H Q E h⟩
theorem ok_is_sequence (T : Txt P K mg A B) : FnOk P w K mg base CX0 1 B.f_is_sequence B.d_is_sequence (["value"] : List Str) (sp_is_sequence K A) :=
  T.F_is_sequence.ok sc_is_sequence len_is_sequence fun cdv A1 outer s H vs Q E hr h => ⟨t_is_sequence K A, by exact (pss_one (ps_ret (pe_callB call_isiT rfl T.no_isinstance (by decide +kernel) (pa_cons (pv 0) (pa_cons (pe_tup (pa_cons (pe_bltn rfl T.no_list (by decide +kernel) rfl) (pa_cons (pe_bltn rfl T.no_tuple (by decide +kernel) rfl) pa_nil))) pa_nil))))), pure_is_sequence T.tx vs H Q E h⟩
theorem ok_is_stuff (T : Txt P K mg A B) : FnOk P w K mg base CX0 3 B.f_is_stuff B.d_is_stuff (["value"] : List Str) (sp_is_stuff K A) :=
  T.F_is_stuff.ok sc_is_stuff len_is_stuff fun cdv A1 outer s H vs Q E hr h => ⟨t_is_stuff K A, by exact (pss_cons (ps_if (PW.pt (pw_or (pt_not (pt_val (pe_callB call_isi rfl T.no_isinstance (by decide +kernel) (pa_cons (pv 0) (pa_cons (pe_bltn rfl T.no_tuple (by decide +kernel) rfl) pa_nil))))) (pw_or1 (pt_cmpR op_ne (pe_callB callLenS rfl T.no_len (by decide +kernel) (pa_cons (pv 0) pa_nil)) pe_int (nomark _))))) (pss_one (ps_ret pe_bl)) pss_nil)
    (pss_one (ps_ret (pe_and (pe_call (ok_is_word T) (hr.mono (by decide)) rfl T.m_is_word T.k_is_word T.b_is_word .nil pass0 (pa_cons (pe_ix ix_tup (pv 0) pe_int (fun _ _ => rfl)) pa_nil)) (pe_and (pe_cmpR opGtI (pe_callB callLenT rfl T.no_len (by decide +kernel) (pa_cons (pe_ix ix_tup (pv 0) pe_int (fun _ _ => rfl)) pa_nil)) pe_int (nomark _)) (pe_one (pe_call (ok_is_bit T) (hr.mono (by decide)) rfl T.m_is_bit T.k_is_bit T.b_is_bit .nil pass0 (pa_cons (pe_ix ix_tup (pv 0) pe_int (fun _ _ => rfl)) pa_nil)))))))), pure_is_stuff T.tx vs H Q E h⟩
theorem ok_are_stuffs (T : Txt P K mg A B) : FnOk P w K mg base CX0 4 B.f_are_stuffs B.d_are_stuffs (["value"] : List Str) (sp_are_stuffs K A) :=
  T.F_are_stuffs.ok sc_are_stuffs len_are_stuffs fun cdv A1 outer s H vs Q E hr h => ⟨t_are_stuffs K A, by exact (pss_cons (ps_if (PW.pt (pw_or (pt_not (pt_val (pe_call (ok_is_sequence T) (hr.mono (by decide)) rfl T.m_is_sequence T.k_is_sequence T.b_is_sequence .nil pass0 (pa_cons (pv 0) pa_nil)))) (pw_or1 (pt_not (pt_val (pe_callB (cr_all rfl) rfl T.no_all (by decide +kernel) (pa_cons (pe_lc (own := [("one", 6)]) (g := (gName 6)) rfl sc_are_stuffs.nd (pi_seq (pv 0)) (blkOk_by (N := (["value", "at", "stuff", "rest", "pattern", "bit", "one"] : List Str)) (sc := defScope s_are_stuffs) (by decide +kernel)) (fun _ _ _ _ _ => pg_name (i := 6) sc_are_stuffs.nd rfl (Or.inl rfl)) (fun _ _ _ _ _ => pts_nil) (fun _ _ _ _ _ => (pe_call (ok_is_stuff T) (hr.mono (by decide)) rfl T.m_is_stuff T.k_is_stuff T.b_is_stuff .nil pass0 (pa_cons (pv 6) pa_nil)))) pa_nil))))))) (pss_one (ps_ret pe_bl)) pss_nil)
    (pss_cons (ps_for PassesOwn.never rfl (pi_enumQ (by rfl) T.no_enumerate (pa_cons (pv 0) pa_nil)) (pg_tup (by rfl) (pgs_cons (pg_name (i := 1) sc_are_stuffs.nd rfl (Or.inl rfl)) (pgs_cons (pg_name (i := 2) sc_are_stuffs.nd rfl (Or.inr rfl)) pgs_nil))) (pss_cons (ps_set (i := 3) sc_are_stuffs.nd rfl (Or.inl rfl) (pe_lst (pa_star (pe_slice sl_seq (pv 0) po_none (po_some (pv 1))) (pa_star (pe_slice sl_seq (pv 0) (po_some (pe_op opAddI (pv 1) pe_int)) po_none) pa_nil))))
    (pss_one (ps_if (pt_val (pe_callB (cr_any rfl) rfl T.no_any (by decide +kernel) (pa_cons (pe_lc (own := [("pattern", 4), ("bit", 5)]) (g := (gTup K 2 (gCons (gName 4) (gCons (gName 5) gNil)))) rfl sc_are_stuffs.nd (pi_list (pv 3)) (blkOk_by (N := (["value", "at", "stuff", "rest", "pattern", "bit", "one"] : List Str)) (sc := defScope s_are_stuffs) (by decide +kernel)) (fun _ _ _ _ _ => pg_tup (by rfl) (pgs_cons (pg_name (i := 4) sc_are_stuffs.nd rfl (Or.inl rfl)) (pgs_cons (pg_name (i := 5) sc_are_stuffs.nd rfl (Or.inl rfl)) pgs_nil))) (fun _ _ _ _ _ => pts_nil) (fun _ _ _ _ _ => (pe_m1 PySem.F.slot_str_endswith PySem.F.type_str_endswith mtEnds (pe_ix ix_tup (pv 2) pe_int (fun _ _ => rfl)) (pv 4)))) pa_nil))) (pss_one (ps_ret pe_bl)) pss_nil))))
    (pss_one (ps_ret pe_bl)))), pure_are_stuffs T.tx vs H Q E h⟩
theorem ok_tail (T : Txt P K mg A B) : FnOk P w K mg base CX0 1 B.f_tail B.d_tail (["line", "size"] : List Str) (sp_tail K A) :=
  T.F_tail.ok sc_tail len_tail fun cdv A1 outer s H vs Q E hr h => ⟨t_tail K A, by exact (pss_one (ps_ret (pe_slice sl_str (pv 0) (po_some (pe_callB (callMax2 rfl) rfl T.no_max (by decide +kernel) (pa_cons pe_int (pa_cons (pe_op opSubI (pe_callB callLenT rfl T.no_len (by decide +kernel) (pa_cons (pv 0) pa_nil)) (pv 1)) pa_nil)))) po_none))), pure_tail vs H Q E h⟩
theorem ok_Rule_longest (T : Txt P K mg A B) : FnOk P w K mg base CX0 1 B.f_Rule_longest B.d_Rule_longest (["self"] : List Str) (sp_Rule_longest K A) :=
  T.F_Rule_longest.ok sc_Rule_longest len_Rule_longest fun cdv A1 outer s H vs Q E hr h => ⟨t_Rule_longest K A, by exact (pss_one (ps_ret (pe_callB (cr_max rfl) rfl T.no_max (by decide +kernel) (pa_cons (pe_lst (pa_cons pe_int (pa_star (pe_lc (own := [("pattern", 1), ("bit", 2)]) (g := (gTup K 2 (gCons (gName 1) (gCons (gName 2) gNil)))) rfl sc_Rule_longest.nd (pi_tup (pe_fld (pv 0) rfl)) (blkOk_by (N := (["self", "pattern", "bit"] : List Str)) (sc := defScope s_Rule_longest) (by decide +kernel)) (fun _ _ _ _ _ => pg_tup (by rfl) (pgs_cons (pg_name (i := 1) sc_Rule_longest.nd rfl (Or.inl rfl)) (pgs_cons (pg_name (i := 2) sc_Rule_longest.nd rfl (Or.inl rfl)) pgs_nil))) (fun _ _ _ _ _ => pts_nil) (fun _ _ _ _ _ => (pe_callB callLenT rfl T.no_len (by decide +kernel) (pa_cons (pv 1) pa_nil)))) pa_nil))) pa_nil)))), pure_Rule_longest T.tx vs H Q E h⟩
theorem ok_Rule_put (T : Txt P K mg A B) : FnOk P w K mg base CX0 1 B.f_Rule_put B.d_Rule_put (["self", "line"] : List Str) (sp_Rule_put K A) :=
  T.F_Rule_put.ok sc_Rule_put len_Rule_put fun cdv A1 outer s H vs Q E hr h => ⟨t_Rule_put K A, by exact (pss_cons (ps_for PassesOwn.never rfl (pi_tup (pe_fld (pv 0) rfl)) (pg_tup (by rfl) (pgs_cons (pg_name (i := 2) sc_Rule_put.nd rfl (Or.inl rfl)) (pgs_cons (pg_name (i := 3) sc_Rule_put.nd rfl (Or.inl rfl)) pgs_nil))) (pss_one (ps_if (pt_val (pe_m1 PySem.F.slot_str_endswith PySem.F.type_str_endswith mtEnds (pv 1) (pv 2))) (pss_one (ps_ret (pv 3))) pss_nil)))
    (pss_one (ps_ret pe_non))), pure_Rule_put T.tx vs H Q E h⟩
theorem ok_Rule_put_in (T : Txt P K mg A B) : FnOk P w K mg base CX0 3 B.f_Rule_put_in B.d_Rule_put_in (["self", "line"] : List Str) (sp_Rule_put_in K A) :=
  T.F_Rule_put_in.ok sc_Rule_put_in len_Rule_put_in fun cdv A1 outer s H vs Q E hr h => ⟨t_Rule_put_in K A, by exact (pss_cons (ps_par (i := 2) (j := 3) rfl sc_Rule_put_in.nd rfl rfl (by decide) rfl rfl (pa_cons pe_str (pa_cons pe_dnewK pa_nil)) (by rfl))
    (pss_cons (ps_set (i := 4) sc_Rule_put_in.nd rfl (Or.inl rfl) (pe_meth (pv 0) T.tx.cl_Rule T.me_Rule_put (ok_Rule_put T) (hr.mono (by decide)) T.b_Rule_put .nil pass0 (pa_cons (pv 1) pa_nil)))
    (pss_cons (ps_while PassesOwn.never (pt_cmpR op_notN1 (pv 4) pe_non (nomark _)) (pss_cons (ps_set (i := 5) sc_Rule_put_in.nd rfl (Or.inl rfl) (pe_call (ok_tail T) (hr.mono (by decide)) rfl T.m_tail T.k_tail T.b_tail .nil pass0 (pa_cons (pe_op opAddT (pv 1) (pv 2)) (pa_cons (pe_prop (pv 0) T.tx.cl_Rule T.pr_Rule_longest (ok_Rule_longest T) (hr.mono (by decide)) T.b_Rule_longest .nil pass0 rfl) pa_nil))))
    (pss_cons (ps_if (pt_cmp (pc_din (hu_of hr) (pv 5) (pv 3))) (pss_one (ps_ret pe_non)) pss_nil)
    (pss_cons (ps_dput (hu_of hr) (pv 3) (pv 5) pe_bl rfl)
    (pss_cons (ps_aug (i := 2) sc_Rule_put_in.nd rfl (Or.inl rfl) (pv 4) ip_addT)
    (pss_one (ps_set (i := 4) sc_Rule_put_in.nd rfl (Or.inl rfl) (pe_meth (pv 0) T.tx.cl_Rule T.me_Rule_put (ok_Rule_put T) (hr.mono (by decide)) T.b_Rule_put .nil pass0 (pa_cons (pe_op opAddT (pv 1) (pv 2)) pa_nil)))))))))
    (pss_one (ps_ret (pv 2)))))), pure_Rule_put_in T.tx vs H Q E h⟩
theorem ok_Rule_is_endless (T : Txt P K mg A B) : FnOk P w K mg base CX0 4 B.f_Rule_is_endless B.d_Rule_is_endless (["self"] : List Str) (sp_Rule_is_endless K A) :=
  T.F_Rule_is_endless.ok sc_Rule_is_endless len_Rule_is_endless fun cdv A1 outer s H vs Q E hr h => ⟨t_Rule_is_endless K A, by exact (pss_cons (ps_par3 (i := 1) (j := 2) (l := 3) rfl sc_Rule_is_endless.nd rfl rfl rfl (by decide) (by decide) (by decide) rfl rfl rfl (pa_cons (pe_lst (pa_cons pe_str pa_nil)) (pa_cons (pe_disp (pps_cons pe_str pe_bl pps_nil) (by rfl) (by rfl) (fun z => by cases z) (by decide)) (pa_cons pe_int pa_nil))) (by rfl))
    (pss_cons (ps_while PassesOwn.never (pt_cmpR opLtI (pv 3) (pe_callB callLenS rfl T.no_len (by decide +kernel) (pa_cons (pv 1) pa_nil)) (nomark _)) (pss_cons (ps_for PassesOwn.never rfl (pi_str (pe_glob rfl T.m_BITS ⟨_, rfl⟩)) (pg_name (i := 4) sc_Rule_is_endless.nd rfl (Or.inl rfl)) (pss_cons (ps_set (i := 5) sc_Rule_is_endless.nd rfl (Or.inl rfl) (pe_op opAddT (pe_ix ix_list (pv 1) (pv 3) (fun _ _ => rfl)) (pv 4)))
    (pss_cons (ps_set (i := 6) sc_Rule_is_endless.nd rfl (Or.inl rfl) (pe_meth (pv 0) T.tx.cl_Rule T.me_Rule_put_in (ok_Rule_put_in T) (hr.mono (by decide)) T.b_Rule_put_in .nil pass0 (pa_cons (pv 5) pa_nil)))
    (pss_cons (ps_if (pt_cmpR op_isN1 (pv 6) pe_non (nomark _)) (pss_one (ps_ret pe_bl)) pss_nil)
    (pss_cons (ps_set (i := 7) sc_Rule_is_endless.nd rfl (Or.inl rfl) (pe_call (ok_tail T) (hr.mono (by decide)) rfl T.m_tail T.k_tail T.b_tail .nil pass0 (pa_cons (pe_op opAddT (pv 5) (pv 6)) (pa_cons (pe_prop (pv 0) T.tx.cl_Rule T.pr_Rule_longest (ok_Rule_longest T) (hr.mono (by decide)) T.b_Rule_longest .nil pass0 rfl) pa_nil))))
    (pss_one (ps_if (pt_cmp (pc_dnotin (hu_of hr) (pv 7) (pv 2))) (pss_cons (ps_dput (hu_of hr) (pv 2) (pv 7) pe_bl rfl)
    (pss_one (ps_expr (pe_bm PySem.F.plainAttrs_list PySem.F.slot_list_append PySem.F.type_list_append mt_append (pv 1) (pa_cons (pv 7) pa_nil))))) pss_nil)))))))
    (pss_one (ps_aug (i := 3) sc_Rule_is_endless.nd rfl (Or.inl rfl) pe_int ip_add))))
    (pss_one (ps_ret pe_bl)))), pure_Rule_is_endless T.tx vs H Q E h⟩
theorem ok_Rule___init__ (T : Txt P K mg A B) : FnOk P w K mg base (L2.CX P w) 5 B.f_Rule___init__ B.d_Rule___init__ (["self", "flag", "stuffs"] : List Str) (sp_Rule___init__ K A) :=
  T.F_Rule___init__.ok sc_Rule___init__ len_Rule___init__ fun cdv A1 outer s H vs Q E hr h => ⟨t_Rule___init__ K A E, by exact (pss_cons (ps_if (PW.pt (pw_or (pt_not (pt_val (pe_call (ok_is_word T) (hr.mono (by decide)) rfl T.m_is_word T.k_is_word T.b_is_word .nil pass0 (pa_cons (pv 1) pa_nil)))) (pw_or1 (pt_cmpR opLtI (pe_callB callLenT rfl T.no_len (by decide +kernel) (pa_cons (pv 1) pa_nil)) pe_int (nomark _))))) (pss_one (Exc_word.ps_raiseE (k := 1) rfl rfl T.ex_InvalidRule (hr.mono (by decide)) (takes_of rfl rfl rfl rfl) (pa_cons pe_str pa_nil))) pss_nil)
    (pss_cons (ps_if (pt_not (pt_val (pe_call (ok_are_stuffs T) (hr.mono (by decide)) rfl T.m_are_stuffs T.k_are_stuffs T.b_are_stuffs .nil pass0 (pa_cons (pv 2) pa_nil)))) (pss_one (Exc_word.ps_raiseE (k := 1) rfl rfl T.ex_InvalidRule (hr.mono (by decide)) (takes_of rfl rfl rfl rfl) (pa_cons pe_str pa_nil))) pss_nil)
    (pss_cons (ps_fld (pv 0) (pv 1) rfl)
    (pss_cons (ps_fld (pv 0) (pe_callTy callTupleOf rfl T.no_tuple (by decide +kernel) (pa_cons (pe_callB (callSortSt (un_of hr)) rfl T.no_sorted (by decide +kernel) (pa_cons (pv 2) pa_nil)) pa_nil)) rfl)
    (pss_one (ps_if (pt_val (pe_meth0 (pv 0) T.tx.cl_Rule T.me_Rule_is_endless (ok_Rule_is_endless T) (hr.mono (by decide)) T.b_Rule_is_endless .nil pass0)) (pss_one (Exc_word.ps_raiseE (k := 1) rfl rfl T.ex_InvalidRule (hr.mono (by decide)) (takes_of rfl rfl rfl rfl) (pa_cons pe_str pa_nil))) pss_nil)))))), pure_Rule___init__ T.tx vs H Q E h⟩
theorem ok__law_seed (T : Txt P K mg A B) : FnOk P w K mg base CX0 1 B.f__law_seed B.d__law_seed (["_law_script", "_law_k"] : List Str) (sp__law_seed K A) :=
  T.F__law_seed.ok sc__law_seed len__law_seed fun cdv A1 outer s H vs Q E hr h => ⟨t__law_seed K A, by exact (pss_cons (ps_set (i := 2) sc__law_seed.nd rfl (Or.inl rfl) (pe_op opAddI (pe_op opMulI pe_int (pv 1)) pe_int))
    (pss_cons (ps_if (pt_cmpR opLtI (pv 1) (pe_callB callLenS rfl T.no_len (by decide +kernel) (pa_cons (pv 0) pa_nil)) (nomark _)) (pss_one (ps_set (i := 2) sc__law_seed.nd rfl (Or.inl rfl) (pe_callB callAbs rfl T.no_abs (by decide +kernel) (pa_cons (pe_ix ix_list (pv 0) (pv 1) (fun _ _ => rfl)) pa_nil)))) (pss_one (ps_if (pt_cmpR opGtI (pe_callB callLenS rfl T.no_len (by decide +kernel) (pa_cons (pv 0) pa_nil)) pe_int (nomark _)) (pss_one (ps_set (i := 2) sc__law_seed.nd rfl (Or.inl rfl) (pe_op opAddI (pv 2) (pe_op opMulI (pe_op opModI (pe_callTy callInt rfl T.no_int (by decide +kernel) (pa_cons (pe_callB callAbs rfl T.no_abs (by decide +kernel) (pa_cons (pe_ix ix_list (pv 0) (pe_op opModI (pe_callTy callInt rfl T.no_int (by decide +kernel) (pa_cons (pv 1) pa_nil)) (pe_callB callLenS rfl T.no_len (by decide +kernel) (pa_cons (pv 0) pa_nil))) (fun _ _ => rfl)) pa_nil)) pa_nil)) pe_int) pe_int)))) pss_nil)))
    (pss_one (ps_ret (pe_lst (pa_cons (pe_ifExp (pt_cmpR opGeI (pv 2) (pe_op opPowI pe_int pe_int) (nomark _)) (pv 2) pe_int) (pa_cons (pe_op opAddI (pe_op opModI (pe_callTy callInt rfl T.no_int (by decide +kernel) (pa_cons (pe_op opAddI (pe_op opMulI (pe_op opModI (pe_callTy callInt rfl T.no_int (by decide +kernel) (pa_cons (pv 2) pa_nil)) pe_int) pe_int) (pe_op opMulI pe_int (pv 1))) pa_nil)) pe_int) pe_int) pa_nil))))))), pure__law_seed T.tx vs H Q E h⟩
theorem ok__law_choose (T : Txt P K mg A B) : FnOk P w K mg base CX0 1 B.f__law_choose B.d__law_choose (["_law_box", "_law_many"] : List Str) (sp__law_choose K A) :=
  T.F__law_choose.ok sc__law_choose len__law_choose fun cdv A1 outer s H vs Q E hr h => ⟨t__law_choose K A, by exact (pss_cons (ps_if (pt_cmpR opGtI (pe_ix ix_list (pv 0) pe_int (fun _ _ => rfl)) pe_int (nomark _)) (pss_cons (ps_set (i := 2) sc__law_choose.nd rfl (Or.inl rfl) (pe_op opModI (pe_callTy callInt rfl T.no_int (by decide +kernel) (pa_cons (pe_ix ix_list (pv 0) pe_int (fun _ _ => rfl)) pa_nil)) (pv 1)))
    (pss_cons (ps_asg (pe_op opFdvI (pe_ix ix_list (pv 0) pe_int (fun _ _ => rfl)) (pv 1)) (pg_sub (pv 0) pe_int set_list))
    (pss_one (ps_ret (pv 2))))) pss_nil)
    (pss_cons (ps_set (i := 3) sc__law_choose.nd rfl (Or.inl rfl) (pe_op opModI (pe_callTy callInt rfl T.no_int (by decide +kernel) (pa_cons (pe_op opAddI (pe_op opMulI (pe_ix ix_list (pv 0) pe_int (fun _ _ => rfl)) pe_int) pe_int) pa_nil)) pe_int))
    (pss_cons (ps_asg (pe_op opAddI (pe_op opModI (pe_callTy callInt rfl T.no_int (by decide +kernel) (pa_cons (pe_op opAddI (pe_op opMulI (pv 3) pe_int) pe_int) pa_nil)) pe_int) pe_int) (pg_sub (pv 0) pe_int set_list))
    (pss_one (ps_ret (pe_op opModI (pe_callTy callInt rfl T.no_int (by decide +kernel) (pa_cons (pe_op opFdvI (pe_op opAddI (pe_op opMulI (pv 3) pe_int) (pe_ix ix_list (pv 0) pe_int (fun _ _ => rfl))) pe_int) pa_nil)) (pv 1))))))), pure__law_choose T.tx vs H Q E h⟩
theorem ok__law_one_of (T : Txt P K mg A B) : FnOk P w K mg base CX0 2 B.f__law_one_of B.d__law_one_of (["_law_box", "_law_some"] : List Str) (sp__law_one_of K A) :=
  T.F__law_one_of.ok sc__law_one_of len__law_one_of fun cdv A1 outer s H vs Q E hr h => ⟨t__law_one_of K A, by exact (pss_one (ps_ret (pe_ix ix_seq (pv 1) (pe_call (ok__law_choose T) (hr.mono (by decide)) rfl T.m__law_choose T.k__law_choose T.b__law_choose .nil pass0 (pa_cons (pv 0) (pa_cons (pe_callB callLenS rfl T.no_len (by decide +kernel) (pa_cons (pv 1) pa_nil)) pa_nil))) (fun _ _ => rfl)))), pure__law_one_of T.tx vs H Q E h⟩
theorem ok__law_word (T : Txt P K mg A B) : FnOk P w K mg base CX0 3 B.f__law_word B.d__law_word (["_law_box", "_law_few", "_law_many"] : List Str) (sp__law_word K A) :=
  T.F__law_word.ok sc__law_word len__law_word fun cdv A1 outer s H vs Q E hr h => ⟨t__law_word K A, by exact (pss_one (ps_ret (pe_m1 PySem.F.slot_str_join PySem.F.type_str_join mtJoin pe_str (pe_lc (own := [("_law_turn", 3)]) (g := (gName 3)) rfl sc__law_word.nd (pi_range1 rfl T.no_range (pa_cons (pe_op opAddI (pv 1) (pe_call (ok__law_choose T) (hr.mono (by decide)) rfl T.m__law_choose T.k__law_choose T.b__law_choose .nil pass0 (pa_cons (pv 0) (pa_cons (pe_op opAddI (pe_op opSubI (pv 2) (pv 1)) pe_int) pa_nil)))) pa_nil)) (blkOk_by (N := (["_law_box", "_law_few", "_law_many", "_law_turn"] : List Str)) (sc := defScope s__law_word) (by decide +kernel)) (fun _ _ _ _ _ => pg_name (i := 3) sc__law_word.nd rfl (Or.inl rfl)) (fun _ _ _ _ _ => pts_nil) (fun _ _ _ _ _ => (pe_call (ok__law_one_of T) (hr.mono (by decide)) rfl T.m__law_one_of T.k__law_one_of T.b__law_one_of .nil pass0 (pa_cons (pv 0) (pa_cons (pe_lst (pa_cons pe_str (pa_cons pe_str pa_nil))) pa_nil)))))))), pure__law_word T.tx vs H Q E h⟩
theorem ok__law_words (T : Txt P K mg A B) : FnOk P w K mg base CX0 1 B.f__law_words B.d__law_words (["_law_size"] : List Str) (sp__law_words K A) :=
  T.F__law_words.ok sc__law_words len__law_words fun cdv A1 outer s H vs Q E hr h => ⟨t__law_words K A, by exact (pss_cons (ps_set (i := 1) sc__law_words.nd rfl (Or.inl rfl) (pe_lst (pa_cons pe_str pa_nil)))
    (pss_cons (ps_for PassesOwn.never rfl (pi_range1 rfl T.no_range (pa_cons (pv 0) pa_nil)) (pg_name (i := 2) sc__law_words.nd rfl (Or.inl rfl)) (pss_one (ps_set (i := 1) sc__law_words.nd rfl (Or.inl rfl) (pe_op op_cat (pe_lc (own := [("_law_word_here", 3)]) (g := (gName 3)) rfl sc__law_words.nd (pi_list (pv 1)) (blkOk_by (N := (["_law_size", "_law_found", "_law_turn", "_law_word_here"] : List Str)) (sc := defScope s__law_words) (by decide +kernel)) (fun _ _ _ _ _ => pg_name (i := 3) sc__law_words.nd rfl (Or.inl rfl)) (fun _ _ _ _ _ => pts_nil) (fun _ _ _ _ _ => (pe_op opAddT pe_str (pv 3)))) (pe_lc (own := [("_law_word_here", 3)]) (g := (gName 3)) rfl sc__law_words.nd (pi_list (pv 1)) (blkOk_by (N := (["_law_size", "_law_found", "_law_turn", "_law_word_here"] : List Str)) (sc := defScope s__law_words) (by decide +kernel)) (fun _ _ _ _ _ => pg_name (i := 3) sc__law_words.nd rfl (Or.inl rfl)) (fun _ _ _ _ _ => pts_nil) (fun _ _ _ _ _ => (pe_op opAddT pe_str (pv 3))))))))
    (pss_one (ps_ret (pv 1))))), pure__law_words T.tx vs H Q E h⟩
theorem ok__law_put (T : Txt P K mg A B) : FnOk P w K mg base CX0 1 B.f__law_put B.d__law_put (["_law_rule", "_law_line"] : List Str) (sp__law_put K A) :=
  T.F__law_put.ok sc__law_put len__law_put fun cdv A1 outer s H vs Q E hr h => ⟨t__law_put K A, by exact (pss_cons (ps_setLc (i := 2) (own := [("_law_pattern", 3), ("_law_bit", 4)]) (g := (gTup K 2 (gCons (gName 3) (gCons (gName 4) gNil)))) rfl sc__law_put.nd rfl rfl (sw_true rfl rfl rfl (by decide +kernel)) (pi_list (pe_ix ix_tup (pv 0) pe_int (fun _ _ => rfl))) (blkOk_by (N := (["_law_rule", "_law_line", "_law_some", "_law_pattern", "_law_bit"] : List Str)) (sc := defScope s__law_put) (by decide +kernel)) (fun _ _ _ _ _ => pg_tup (by rfl) (pgs_cons (pg_name (i := 3) sc__law_put.nd rfl (Or.inl rfl)) (pgs_cons (pg_name (i := 4) sc__law_put.nd rfl (Or.inl rfl)) pgs_nil))) (fun _ _ _ _ _ => (pts_one (pt_cmpR op_eq (pe_slice sl_str (pv 1) (po_some (pe_callB (callMax2 rfl) rfl T.no_max (by decide +kernel) (pa_cons pe_int (pa_cons (pe_op opSubI (pe_callB callLenT rfl T.no_len (by decide +kernel) (pa_cons (pv 1) pa_nil)) (pe_callB callLenT rfl T.no_len (by decide +kernel) (pa_cons (pv 3) pa_nil))) pa_nil)))) po_none) (pv 3) (nomark _)))) (fun _ _ _ _ _ => (pv 4)))
    (pss_one (ps_ret (pe_ifExp (pt_cmpR (op_neD hr.units) (pv 2) (pe_lst pa_nil) (nomark _)) (pe_ix ix_list (pv 2) pe_int (fun _ _ => rfl)) pe_str)))), pure__law_put T.tx vs H Q E h⟩
theorem ok__law_is_rule (T : Txt P K mg A B) : FnOk P w K mg base CX0 2 B.f__law_is_rule B.d__law_is_rule (["_law_rule"] : List Str) (sp__law_is_rule K A) :=
  T.F__law_is_rule.ok sc__law_is_rule len__law_is_rule fun cdv A1 outer s H vs Q E hr h => ⟨t__law_is_rule K A, by exact (pss_cons (ps_setLc (i := 1) (own := [("_law_pattern", 13), ("_law_bit", 9)]) (g := (gTup K 2 (gCons (gName 13) (gCons (gName 9) gNil)))) rfl sc__law_is_rule.nd rfl rfl (sw_true rfl rfl rfl (by decide +kernel)) (pi_list (pe_ix ix_tup (pv 0) pe_int (fun _ _ => rfl))) (blkOk_by (N := (["_law_rule", "_law_names", "_law_at", "_law_one", "_law_spot", "_law_other_one", "_law_known", "_law_waiting", "_law_behind", "_law_bit", "_law_line", "_law_turn", "_law_there", "_law_pattern"] : List Str)) (sc := defScope s__law_is_rule) (by decide +kernel)) (fun _ _ _ _ _ => pg_tup (by rfl) (pgs_cons (pg_name (i := 13) sc__law_is_rule.nd rfl (Or.inl rfl)) (pgs_cons (pg_name (i := 9) sc__law_is_rule.nd rfl (Or.inl rfl)) pgs_nil))) (fun _ _ _ _ _ => pts_nil) (fun _ _ _ _ _ => (pv 13)))
    (pss_cons (ps_for PassesOwn.never rfl (pi_enum (by rfl) T.no_enumerate (pa_cons (pv 1) pa_nil)) (pg_tup (by rfl) (pgs_cons (pg_name (i := 2) sc__law_is_rule.nd rfl (Or.inl rfl)) (pgs_cons (pg_name (i := 3) sc__law_is_rule.nd rfl (Or.inl rfl)) pgs_nil))) (pss_one (ps_for PassesOwn.never rfl (pi_enum (by rfl) T.no_enumerate (pa_cons (pv 1) pa_nil)) (pg_tup (by rfl) (pgs_cons (pg_name (i := 4) sc__law_is_rule.nd rfl (Or.inl rfl)) (pgs_cons (pg_name (i := 5) sc__law_is_rule.nd rfl (Or.inl rfl)) pgs_nil))) (pss_one (ps_if (PW.pt (pw_and (pt_cmpR op_ne (pv 2) (pv 4) (nomark _)) (pw_and1 (pt_val (pe_m1 PySem.F.slot_str_endswith PySem.F.type_str_endswith mtEnds (pv 3) (pv 5)))))) (pss_one (ps_ret pe_bl)) pss_nil)))))
    (pss_cons (ps_par (i := 6) (j := 7) rfl sc__law_is_rule.nd rfl rfl (by decide) rfl rfl (pa_cons (pe_disp (pps_cons pe_str pe_bl pps_nil) (by rfl) (by rfl) (fun z => by cases z) (by decide)) (pa_cons (pe_lst (pa_cons pe_str pa_nil)) pa_nil)) (by rfl))
    (pss_cons (ps_while PassesOwn.never (pt_cmpR (op_neD hr.units) (pv 7) (pe_lst pa_nil) (nomark _)) (pss_cons (ps_set (i := 8) sc__law_is_rule.nd rfl (Or.inl rfl) (pe_bm0 PySem.F.plainAttrs_list PySem.F.slot_list_pop PySem.F.type_list_pop mt_pop (pv 7)))
    (pss_one (ps_for PassesOwn.never rfl (pi_str pe_str) (pg_name (i := 9) sc__law_is_rule.nd rfl (Or.inl rfl)) (pss_cons (ps_set (i := 10) sc__law_is_rule.nd rfl (Or.inl rfl) (pe_op opAddT (pv 8) (pv 9)))
    (pss_cons (ps_for PassesOwn.never rfl (pi_range1 rfl T.no_range (pa_cons pe_int pa_nil)) (pg_name (i := 11) sc__law_is_rule.nd rfl (Or.inl rfl)) (pss_one (ps_set (i := 10) sc__law_is_rule.nd rfl (Or.inl rfl) (pe_op opAddT (pv 10) (pe_call (ok__law_put T) (hr.mono (by decide)) rfl T.m__law_put T.k__law_put T.b__law_put .nil pass0 (pa_cons (pv 0) (pa_cons (pv 10) pa_nil)))))))
    (pss_cons (ps_if (pt_cmpR opGtI (pe_callB callLenT rfl T.no_len (by decide +kernel) (pa_cons (pv 10) pa_nil)) (pe_op opAddI (pe_callB callLenT rfl T.no_len (by decide +kernel) (pa_cons (pv 8) pa_nil)) pe_int) (nomark _)) (pss_one (ps_ret pe_bl)) pss_nil)
    (pss_cons (ps_set (i := 12) sc__law_is_rule.nd rfl (Or.inl rfl) (pe_slice sl_str (pv 10) (po_some (pe_callB (callMax2 rfl) rfl T.no_max (by decide +kernel) (pa_cons pe_int (pa_cons (pe_op opSubI (pe_callB callLenT rfl T.no_len (by decide +kernel) (pa_cons (pv 10) pa_nil)) pe_int) pa_nil)))) po_none))
    (pss_one (ps_if (pt_cmp (pc_dnotin (hu_of hr) (pv 12) (pv 6))) (pss_cons (ps_dput (hu_of hr) (pv 6) (pv 12) pe_bl rfl)
    (pss_one (ps_expr (pe_bm PySem.F.plainAttrs_list PySem.F.slot_list_append PySem.F.type_list_append mt_append (pv 7) (pa_cons (pv 12) pa_nil))))) pss_nil))))))))))
    (pss_one (ps_ret pe_bl)))))), pure__law_is_rule T.tx vs H Q E h⟩
theorem ok__law_word_of (T : Txt P K mg A B) : FnOk P w K mg base CX0 7 B.f__law_word_of B.d__law_word_of (["_law_stuffs"] : List Str) (sp__law_word_of K A) :=
  T.F__law_word_of.ok sc__law_word_of len__law_word_of fun cdv A1 outer s H vs Q E hr h => ⟨t__law_word_of K A, by exact (pss_cons (ps_set (i := 1) sc__law_word_of.nd rfl (Or.inl rfl) pe_str)
    (pss_cons (ps_try_as (i := 2) (tb := fun W => (tDrop (tMake A.C_Rule (sp_Rule___init__ K A) [] (EA W 3) (tCons (tC (.str "0110")) (tCons (tVar 0) tNil))))) (ts := fun a cls d => (tAsg (Exc_word.tBy A.C_InvalidRule a cls d (tVar 2)) (gName 1))) (Wout := (fun _ _ _ _ => False)) rfl rfl sc__law_word_of.nd rfl rfl ⟨rfl, by decide, Or.inl T.ex_InvalidRule.gC⟩ takes0 (fun W pn xe tk hpo => (pss_one (ps_expr (pe_make T.mk_Rule (ok_Rule___init__ T) (hr.mono (by decide)) rfl T.m_Rule T.b_Rule___init__ .nil (passA rfl tk) (pa_cons pe_str (pa_cons (pv 0) pa_nil)))))) (fun a oe cls d pn hz hf => (pss_one (ps_set (i := 1) sc__law_word_of.nd rfl (Or.inl rfl) (Exc_word.pe_by T.ex_InvalidRule hz hf (pv 2))))))
    (pss_one (ps_ret (pv 1))))), pure__law_word_of T.tx vs H Q E h⟩
theorem ok__law_is_parted (T : Txt P K mg A B) : FnOk P w K mg base CX0 1 B.f__law_is_parted B.d__law_is_parted (["_law_stuffs"] : List Str) (sp__law_is_parted K A) :=
  T.F__law_is_parted.ok sc__law_is_parted len__law_is_parted fun cdv A1 outer s H vs Q E hr h => ⟨t__law_is_parted K A, by exact (pss_cons (ps_setLc (i := 1) (own := [("_law_pattern", 2), ("_law_bit", 3)]) (g := (gTup K 2 (gCons (gName 2) (gCons (gName 3) gNil)))) rfl sc__law_is_parted.nd rfl rfl (sw_true rfl rfl rfl (by decide +kernel)) (pi_list (pv 0)) (blkOk_by (N := (["_law_stuffs", "_law_names", "_law_pattern", "_law_bit"] : List Str)) (sc := defScope s__law_is_parted) (by decide +kernel)) (fun _ _ _ _ _ => pg_tup (by rfl) (pgs_cons (pg_name (i := 2) sc__law_is_parted.nd rfl (Or.inl rfl)) (pgs_cons (pg_name (i := 3) sc__law_is_parted.nd rfl (Or.inl rfl)) pgs_nil))) (fun _ _ _ _ _ => pts_nil) (fun _ _ _ _ _ => (pv 2)))
    (pss_one (ps_ret (pe_and (pe_not (pe_m1 PySem.F.slot_str_endswith PySem.F.type_str_endswith mtEnds (pe_ix ix_list (pv 1) pe_int (fun _ _ => rfl)) (pe_ix ix_list (pv 1) pe_int (fun _ _ => rfl)))) (pe_one (pe_not (pe_m1 PySem.F.slot_str_endswith PySem.F.type_str_endswith mtEnds (pe_ix ix_list (pv 1) pe_int (fun _ _ => rfl)) (pe_ix ix_list (pv 1) pe_int (fun _ _ => rfl))))))))), pure__law_is_parted T.tx vs H Q E h⟩
theorem ok_law (T : Txt P K mg A B) : FnOk P w K mg base CX0 8 B.f_law B.d_law (["_law_script"] : List Str) (sp_law K A) :=
  T.F_law.ok sc_law len_law fun cdv A1 outer s H vs Q E hr h => ⟨t_law K A, by exact (pss_cons (ps_for PassesOwn.never rfl (pi_tup (pe_tup (pa_cons pe_int (pa_cons pe_int (pa_cons pe_int pa_nil))))) (pg_name (i := 1) sc_law.nd rfl (Or.inl rfl)) (pss_one (ps_for PassesOwn.never rfl (pi_list (pe_call (ok__law_words T) (hr.mono (by decide)) rfl T.m__law_words T.k__law_words T.b__law_words .nil pass0 (pa_cons (pv 1) pa_nil))) (pg_name (i := 2) sc_law.nd rfl (Or.inl rfl)) (pss_one (ps_for PassesOwn.never rfl (pi_tup (pe_tup (pa_cons pe_str (pa_cons pe_str pa_nil)))) (pg_name (i := 3) sc_law.nd rfl (Or.inl rfl)) (pss_cons (ps_set (i := 4) sc_law.nd rfl (Or.inl rfl) (pe_ifExp (pt_val (pe_call (ok__law_is_rule T) (hr.mono (by decide)) rfl T.m__law_is_rule T.k__law_is_rule T.b__law_is_rule .nil pass0 (pa_cons (pe_tup (pa_cons pe_str (pa_cons (pe_lst (pa_cons (pe_tup (pa_cons (pv 2) (pa_cons (pv 3) pa_nil))) pa_nil)) pa_nil))) pa_nil))) pe_str pe_str))
    (pss_one (ps_if (pt_cmpR op_ne (pe_call (ok__law_word_of T) (hr.mono (by decide)) rfl T.m__law_word_of T.k__law_word_of T.b__law_word_of .nil pass0 (pa_cons (pe_lst (pa_cons (pe_tup (pa_cons (pv 2) (pa_cons (pv 3) pa_nil))) pa_nil)) pa_nil)) (pv 4) (nomark _)) (pss_one (ps_ret pe_bl)) pss_nil))))))))
    (pss_cons (ps_for PassesOwn.never rfl (pi_range1 rfl T.no_range (pa_cons (pe_callB (callMax2 rfl) rfl T.no_max (by decide +kernel) (pa_cons pe_int (pa_cons (pe_callB (callMin2 rfl) rfl T.no_min (by decide +kernel) (pa_cons pe_int (pa_cons (pe_callB callLenS rfl T.no_len (by decide +kernel) (pa_cons (pv 0) pa_nil)) pa_nil))) pa_nil))) pa_nil)) (pg_name (i := 5) sc_law.nd rfl (Or.inl rfl)) (pss_cons (ps_set (i := 6) sc_law.nd rfl (Or.inr rfl) (pe_call (ok__law_seed T) (hr.mono (by decide)) rfl T.m__law_seed T.k__law_seed T.b__law_seed .nil pass0 (pa_cons (pv 0) (pa_cons (pv 5) pa_nil))))
    (pss_one (ps_for PassesOwn.never rfl (pi_range1 rfl T.no_range (pa_cons pe_int pa_nil)) (pg_name (i := 7) sc_law.nd rfl (Or.inl rfl)) (pss_cons (ps_setLc (i := 8) (own := [("_law_more", 9)]) (g := (gName 9)) rfl sc_law.nd rfl rfl (sw_true rfl rfl rfl (by decide +kernel)) (pi_range1 rfl T.no_range (pa_cons pe_int pa_nil)) (blkOk_by (N := (["_law_script", "_law_size", "_law_pattern", "_law_bit", "_law_due", "_law_k", "_law_box", "_law_turn", "_law_stuffs", "_law_more"] : List Str)) (sc := defScope s_law) (by decide +kernel)) (fun _ _ _ _ _ => pg_name (i := 9) sc_law.nd rfl (Or.inl rfl)) (fun _ _ _ _ _ => pts_nil) (fun _ _ _ _ _ => (pe_tup (pa_cons (pe_call (ok__law_word T) (hr.mono (by decide)) rfl T.m__law_word T.k__law_word T.b__law_word .nil pass0 (pa_cons (pv 6) (pa_cons pe_int (pa_cons pe_int pa_nil)))) (pa_cons (pe_call (ok__law_one_of T) (hr.mono (by decide)) rfl T.m__law_one_of T.k__law_one_of T.b__law_one_of .nil pass0 (pa_cons (pv 6) (pa_cons (pe_lst (pa_cons pe_str (pa_cons pe_str pa_nil))) pa_nil))) pa_nil)))))
    (pss_one (ps_if (pt_val (pe_call (ok__law_is_parted T) (hr.mono (by decide)) rfl T.m__law_is_parted T.k__law_is_parted T.b__law_is_parted .nil pass0 (pa_cons (pv 8) pa_nil))) (pss_cons (ps_set (i := 4) sc_law.nd rfl (Or.inl rfl) (pe_ifExp (pt_val (pe_call (ok__law_is_rule T) (hr.mono (by decide)) rfl T.m__law_is_rule T.k__law_is_rule T.b__law_is_rule .nil pass0 (pa_cons (pe_tup (pa_cons pe_str (pa_cons (pv 8) pa_nil))) pa_nil))) pe_str pe_str))
    (pss_one (ps_if (PW.pt (pw_or (pt_cmpR op_ne (pe_call (ok__law_word_of T) (hr.mono (by decide)) rfl T.m__law_word_of T.k__law_word_of T.b__law_word_of .nil pass0 (pa_cons (pv 8) pa_nil)) (pv 4) (nomark _)) (pw_or1 (pt_cmpR op_ne (pe_call (ok__law_word_of T) (hr.mono (by decide)) rfl T.m__law_word_of T.k__law_word_of T.b__law_word_of .nil pass0 (pa_cons (pe_callTy callTupleOf rfl T.no_tuple (by decide +kernel) (pa_cons (pe_revS (pv 8) (pe_op opSubI pe_int pe_int)) pa_nil)) pa_nil)) (pv 4) (nomark _))))) (pss_one (ps_ret pe_bl)) pss_nil))) pss_nil)))))))
    (pss_one (ps_ret (pe_and (pe_cmpR op_eq (pe_call (ok__law_word_of T) (hr.mono (by decide)) rfl T.m__law_word_of T.k__law_word_of T.b__law_word_of .nil pass0 (pa_cons (pe_lst (pa_cons (pe_tup (pa_cons pe_str (pa_cons pe_str pa_nil))) pa_nil)) pa_nil)) pe_str (nomark _)) (pe_one (pe_cmpR op_eq (pe_call (ok__law_word_of T) (hr.mono (by decide)) rfl T.m__law_word_of T.k__law_word_of T.b__law_word_of .nil pass0 (pa_cons (pe_lst (pa_cons (pe_tup (pa_cons pe_str (pa_cons pe_str pa_nil))) (pa_cons (pe_tup (pa_cons pe_str (pa_cons pe_str pa_nil))) pa_nil))) pa_nil)) pe_str (nomark _)))))))), pure_law T.tx vs H Q E h⟩
end
theorem exm_self {K : PySem.W.Frag} {S : Addr} (h1 : PySem.W.subIn K (.ref S) (.type "BaseException") = some true) (h2 : PySem.W.isClsIn K S = true) (h3 : PySem.W.typeIn K (.ref S) = some (.type "type")) (h4 : PySem.W.subIn K (.ref S) (.ref S) = some true) :
    PySem.W.exmOne K (.ref S) (.ref S) = some true := by
  have e1 : (PySem.W.subIn K (.ref S) (.type "BaseException") == some true) = true := by rw [h1] <;> rfl
  have e2 : ((PySem.W.clsIn K S).isSome && PySem.W.typeIn K (.ref S) == some (.type "type")) = true := by
    have h2' : (PySem.W.clsIn K S).isSome = true := h2
    rw [h2', h3] <;> rfl
  show (if (PySem.W.subIn K (.ref S) (.type "BaseException") == some true) = true then (if ((PySem.W.clsIn K S).isSome && PySem.W.typeIn K (.ref S) == some (.type "type")) = true then PySem.W.subIn K (.ref S) (.ref S) else none) else none) = some true
  rw [if_pos e1, if_pos e2]
  exact h4
theorem all_mk {P : Program} {w : World} {K : PySem.W.Frag} {h : Heap} {mg : Str → Option Value} {fa : Addr} (X : K.In h) (G : h.Ns mainGlobals mg) (hfa : mg "law" = some (.ref fa))
    {t_BITS : Tok} {C_Rule f_is_word f_is_bit f_is_sequence f_is_stuff f_are_stuffs f_tail f_Rule_longest p_Rule_longest f_Rule_put f_Rule_put_in f_Rule_is_endless f_Rule___init__ T_Rule___init__ e_Rule___init__ f__law_seed f__law_choose f__law_one_of f__law_word f__law_words f__law_put f__law_is_rule f__law_word_of f__law_is_parted f_law C_FlipError N_FlipError C_InvalidRule f_InvalidRule___init__ N_InvalidRule cc_InvalidRule : Addr} {oc_is_word dc_is_word pm_is_word cd_is_word ct_is_word kV_is_word oc_is_bit dc_is_bit pm_is_bit cd_is_bit ct_is_bit kV_is_bit oc_is_sequence dc_is_sequence pm_is_sequence cd_is_sequence ct_is_sequence kV_is_sequence oc_is_stuff dc_is_stuff pm_is_stuff cd_is_stuff ct_is_stuff kV_is_stuff oc_are_stuffs dc_are_stuffs pm_are_stuffs cd_are_stuffs ct_are_stuffs kV_are_stuffs oc_tail dc_tail pm_tail cd_tail ct_tail kV_tail oc_Rule_longest dc_Rule_longest pm_Rule_longest cd_Rule_longest ct_Rule_longest kV_Rule_longest oc_Rule_put dc_Rule_put pm_Rule_put cd_Rule_put ct_Rule_put kV_Rule_put oc_Rule_put_in dc_Rule_put_in pm_Rule_put_in cd_Rule_put_in ct_Rule_put_in kV_Rule_put_in oc_Rule_is_endless dc_Rule_is_endless pm_Rule_is_endless cd_Rule_is_endless ct_Rule_is_endless kV_Rule_is_endless oc_Rule___init__ dc_Rule___init__ pm_Rule___init__ cd_Rule___init__ ct_Rule___init__ kV_Rule___init__ ocT_Rule___init__ oc__law_seed dc__law_seed pm__law_seed cd__law_seed ct__law_seed kV__law_seed oc__law_choose dc__law_choose pm__law_choose cd__law_choose ct__law_choose kV__law_choose oc__law_one_of dc__law_one_of pm__law_one_of cd__law_one_of ct__law_one_of kV__law_one_of oc__law_word dc__law_word pm__law_word cd__law_word ct__law_word kV__law_word oc__law_words dc__law_words pm__law_words cd__law_words ct__law_words kV__law_words oc__law_put dc__law_put pm__law_put cd__law_put ct__law_put kV__law_put oc__law_is_rule dc__law_is_rule pm__law_is_rule cd__law_is_rule ct__law_is_rule kV__law_is_rule oc__law_word_of dc__law_word_of pm__law_word_of cd__law_word_of ct__law_word_of kV__law_word_of oc__law_is_parted dc__law_is_parted pm__law_is_parted cd__law_is_parted ct__law_is_parted kV__law_is_parted oc_law dc_law pm_law cd_law ct_law kV_law oc_InvalidRule doc_InvalidRule pm_InvalidRule cd_InvalidRule ct_InvalidRule oC_InvalidRule : Value} {od_is_word an_is_word od_is_bit an_is_bit od_is_sequence an_is_sequence od_is_stuff an_is_stuff od_are_stuffs an_are_stuffs od_tail an_tail od_Rule_longest an_Rule_longest od_Rule_put an_Rule_put od_Rule_put_in an_Rule_put_in od_Rule_is_endless an_Rule_is_endless od_Rule___init__ an_Rule___init__ odT_Rule___init__ od__law_seed an__law_seed od__law_choose an__law_choose od__law_one_of an__law_one_of od__law_word an__law_word od__law_words an__law_words od__law_put an__law_put od__law_is_rule an__law_is_rule od__law_word_of an__law_word_of od__law_is_parted an__law_is_parted od_law an_law dd_FlipError dd_InvalidRule odx_InvalidRule an_InvalidRule dC_InvalidRule : Option Addr} {sl_is_word sl_is_bit sl_is_sequence sl_is_stuff sl_are_stuffs sl_tail sl_Rule_longest sl_Rule_put sl_Rule_put_in sl_Rule_is_endless sl_Rule___init__ slT_Rule___init__ sl__law_seed sl__law_choose sl__law_one_of sl__law_word sl__law_words sl__law_put sl__law_is_rule sl__law_word_of sl__law_is_parted sl_law sl_InvalidRule sC_InvalidRule : Array (Option Value)} {r_Rule_longest bs_FlipError bm_FlipError sub_FlipError bs_InvalidRule bm_InvalidRule sub_InvalidRule : List Value} {nT_Rule___init__ : Nat} {nm_FlipError q_FlipError nm_InvalidRule q_InvalidRule : Str} {sn_FlipError sn_InvalidRule : List Str} {hd_FlipError ab_FlipError ab_InvalidRule : Bool} {col_FlipError col_InvalidRule : Option Bool} {k0_FlipError k1_FlipError k2_FlipError k3_FlipError k5_FlipError k0_InvalidRule k1_InvalidRule k2_InvalidRule k3_InvalidRule k5_InvalidRule : Option Value} {i_FlipError : String}
    (n_BITS : nsIn K mainGlobals "BITS" = some (some (.str "01" t_BITS)))
    (z_abs : nsIn K mainGlobals "abs" = some none)
    (z_all : nsIn K mainGlobals "all" = some none)
    (z_any : nsIn K mainGlobals "any" = some none)
    (z_enumerate : nsIn K mainGlobals "enumerate" = some none)
    (z_int : nsIn K mainGlobals "int" = some none)
    (z_isinstance : nsIn K mainGlobals "isinstance" = some none)
    (z_len : nsIn K mainGlobals "len" = some none)
    (z_list : nsIn K mainGlobals "list" = some none)
    (z_max : nsIn K mainGlobals "max" = some none)
    (z_min : nsIn K mainGlobals "min" = some none)
    (z_range : nsIn K mainGlobals "range" = some none)
    (z_sorted : nsIn K mainGlobals "sorted" = some none)
    (z_str : nsIn K mainGlobals "str" = some none)
    (z_tuple : nsIn K mainGlobals "tuple" = some none)
    (a_Rule : nsIn K mainGlobals "Rule" = some (some (.ref C_Rule)))
    (pg_Rule : plainGet K C_Rule Str.empty = true)
    (hd_Rule : hasDictIn K C_Rule = true)
    (po_Rule : plainOver K C_Rule = true)
    (sa_Rule : findIn K (.ref C_Rule) "__setattr__" = some (some (.builtin "object.__setattr__")))
    (mk_Rule : makesIn K C_Rule = true)
    (kc_Rule : keepIn K (.ref C_Rule) = true)
    (na_flag : findIn K (.ref C_Rule) "flag" = some none)
    (na_stuffs : findIn K (.ref C_Rule) "stuffs" = some none)
    (i_class : findIn K (.ref C_Rule) "__class__" = some (some (.builtin "object.__class__")))
    (i_special : specialIn K (.builtin "object.__class__") "__get__" = some (some (.builtin "getset_descriptor.__get__")))
    (i_takes : takesIn K (.builtin "object.__class__") = some true)
    (i_object : mroIn K C_Rule (.type "object") = some true)
    (ki_str : mroIn K C_Rule (.type "str") = some false)
    (ki_int : mroIn K C_Rule (.type "int") = some false)
    (ki_list : mroIn K C_Rule (.type "list") = some false)
    (ki_tuple : mroIn K C_Rule (.type "tuple") = some false)
    (l_is_word : K.lookup f_is_word = some ⟨oc_is_word, od_is_word, .func (fnOf "is_word" "is_word" (defArgs s_is_word) (defBody s_is_word) (defScope s_is_word) .none kV_is_word dc_is_word pm_is_word an_is_word cd_is_word ct_is_word), sl_is_word⟩)
    (c_is_word : codeIn K cd_is_word "is_word" = true)
    (k_is_word : keepIn K (.ref f_is_word) = true)
    (a_is_word : nsIn K mainGlobals "is_word" = some (some (.ref f_is_word)))
    (l_is_bit : K.lookup f_is_bit = some ⟨oc_is_bit, od_is_bit, .func (fnOf "is_bit" "is_bit" (defArgs s_is_bit) (defBody s_is_bit) (defScope s_is_bit) .none kV_is_bit dc_is_bit pm_is_bit an_is_bit cd_is_bit ct_is_bit), sl_is_bit⟩)
    (c_is_bit : codeIn K cd_is_bit "is_bit" = true)
    (k_is_bit : keepIn K (.ref f_is_bit) = true)
    (a_is_bit : nsIn K mainGlobals "is_bit" = some (some (.ref f_is_bit)))
    (l_is_sequence : K.lookup f_is_sequence = some ⟨oc_is_sequence, od_is_sequence, .func (fnOf "is_sequence" "is_sequence" (defArgs s_is_sequence) (defBody s_is_sequence) (defScope s_is_sequence) .none kV_is_sequence dc_is_sequence pm_is_sequence an_is_sequence cd_is_sequence ct_is_sequence), sl_is_sequence⟩)
    (c_is_sequence : codeIn K cd_is_sequence "is_sequence" = true)
    (k_is_sequence : keepIn K (.ref f_is_sequence) = true)
    (a_is_sequence : nsIn K mainGlobals "is_sequence" = some (some (.ref f_is_sequence)))
    (l_is_stuff : K.lookup f_is_stuff = some ⟨oc_is_stuff, od_is_stuff, .func (fnOf "is_stuff" "is_stuff" (defArgs s_is_stuff) (defBody s_is_stuff) (defScope s_is_stuff) .none kV_is_stuff dc_is_stuff pm_is_stuff an_is_stuff cd_is_stuff ct_is_stuff), sl_is_stuff⟩)
    (c_is_stuff : codeIn K cd_is_stuff "is_stuff" = true)
    (k_is_stuff : keepIn K (.ref f_is_stuff) = true)
    (a_is_stuff : nsIn K mainGlobals "is_stuff" = some (some (.ref f_is_stuff)))
    (l_are_stuffs : K.lookup f_are_stuffs = some ⟨oc_are_stuffs, od_are_stuffs, .func (fnOf "are_stuffs" "are_stuffs" (defArgs s_are_stuffs) (defBody s_are_stuffs) (defScope s_are_stuffs) .none kV_are_stuffs dc_are_stuffs pm_are_stuffs an_are_stuffs cd_are_stuffs ct_are_stuffs), sl_are_stuffs⟩)
    (c_are_stuffs : codeIn K cd_are_stuffs "are_stuffs" = true)
    (k_are_stuffs : keepIn K (.ref f_are_stuffs) = true)
    (a_are_stuffs : nsIn K mainGlobals "are_stuffs" = some (some (.ref f_are_stuffs)))
    (l_tail : K.lookup f_tail = some ⟨oc_tail, od_tail, .func (fnOf "tail" "tail" (defArgs s_tail) (defBody s_tail) (defScope s_tail) .none kV_tail dc_tail pm_tail an_tail cd_tail ct_tail), sl_tail⟩)
    (c_tail : codeIn K cd_tail "tail" = true)
    (k_tail : keepIn K (.ref f_tail) = true)
    (a_tail : nsIn K mainGlobals "tail" = some (some (.ref f_tail)))
    (l_Rule_longest : K.lookup f_Rule_longest = some ⟨oc_Rule_longest, od_Rule_longest, .func (fnOf "longest" "Rule.longest" (defArgs s_Rule_longest) (defBody s_Rule_longest) (defScope s_Rule_longest) .none kV_Rule_longest dc_Rule_longest pm_Rule_longest an_Rule_longest cd_Rule_longest ct_Rule_longest), sl_Rule_longest⟩)
    (c_Rule_longest : codeIn K cd_Rule_longest "Rule.longest" = true)
    (k_Rule_longest : keepIn K (.ref f_Rule_longest) = true)
    (at_Rule_longest : findIn K (.ref C_Rule) "longest" = some (some (.ref p_Rule_longest)))
    (sp_Rule_longest : specialIn K (.ref p_Rule_longest) "__get__" = some (some (.builtin "property.__get__")))
    (tk_Rule_longest : takesIn K (.ref p_Rule_longest) = some true)
    (re_Rule_longest : recIn K p_Rule_longest "property" = some (Value.ref f_Rule_longest :: r_Rule_longest))
    (l_Rule_put : K.lookup f_Rule_put = some ⟨oc_Rule_put, od_Rule_put, .func (fnOf "put" "Rule.put" (defArgs s_Rule_put) (defBody s_Rule_put) (defScope s_Rule_put) .none kV_Rule_put dc_Rule_put pm_Rule_put an_Rule_put cd_Rule_put ct_Rule_put), sl_Rule_put⟩)
    (c_Rule_put : codeIn K cd_Rule_put "Rule.put" = true)
    (k_Rule_put : keepIn K (.ref f_Rule_put) = true)
    (at_Rule_put : findIn K (.ref C_Rule) "put" = some (some (.ref f_Rule_put)))
    (i_Rule_put : isFn K (.ref f_Rule_put) = true)
    (l_Rule_put_in : K.lookup f_Rule_put_in = some ⟨oc_Rule_put_in, od_Rule_put_in, .func (fnOf "put_in" "Rule.put_in" (defArgs s_Rule_put_in) (defBody s_Rule_put_in) (defScope s_Rule_put_in) .none kV_Rule_put_in dc_Rule_put_in pm_Rule_put_in an_Rule_put_in cd_Rule_put_in ct_Rule_put_in), sl_Rule_put_in⟩)
    (c_Rule_put_in : codeIn K cd_Rule_put_in "Rule.put_in" = true)
    (k_Rule_put_in : keepIn K (.ref f_Rule_put_in) = true)
    (at_Rule_put_in : findIn K (.ref C_Rule) "put_in" = some (some (.ref f_Rule_put_in)))
    (i_Rule_put_in : isFn K (.ref f_Rule_put_in) = true)
    (l_Rule_is_endless : K.lookup f_Rule_is_endless = some ⟨oc_Rule_is_endless, od_Rule_is_endless, .func (fnOf "is_endless" "Rule.is_endless" (defArgs s_Rule_is_endless) (defBody s_Rule_is_endless) (defScope s_Rule_is_endless) .none kV_Rule_is_endless dc_Rule_is_endless pm_Rule_is_endless an_Rule_is_endless cd_Rule_is_endless ct_Rule_is_endless), sl_Rule_is_endless⟩)
    (c_Rule_is_endless : codeIn K cd_Rule_is_endless "Rule.is_endless" = true)
    (k_Rule_is_endless : keepIn K (.ref f_Rule_is_endless) = true)
    (at_Rule_is_endless : findIn K (.ref C_Rule) "is_endless" = some (some (.ref f_Rule_is_endless)))
    (i_Rule_is_endless : isFn K (.ref f_Rule_is_endless) = true)
    (lT_Rule___init__ : K.lookup T_Rule___init__ = some ⟨ocT_Rule___init__, odT_Rule___init__, .seq [Value.ref e_Rule___init__].toArray nT_Rule___init__, slT_Rule___init__⟩)
    (l_Rule___init__ : K.lookup f_Rule___init__ = some ⟨oc_Rule___init__, od_Rule___init__, .func (fnOf "__init__" "Rule.__init__" (defArgs s_Rule___init__) (defBody s_Rule___init__) (defScope s_Rule___init__) (.ref T_Rule___init__) kV_Rule___init__ dc_Rule___init__ pm_Rule___init__ an_Rule___init__ cd_Rule___init__ ct_Rule___init__), sl_Rule___init__⟩)
    (c_Rule___init__ : codeIn K cd_Rule___init__ "Rule.__init__" = true)
    (k_Rule___init__ : keepIn K (.ref f_Rule___init__) = true)
    (at_Rule___init__ : findIn K (.ref C_Rule) "__init__" = some (some (.ref f_Rule___init__)))
    (i_Rule___init__ : isFn K (.ref f_Rule___init__) = true)
    (l__law_seed : K.lookup f__law_seed = some ⟨oc__law_seed, od__law_seed, .func (fnOf "_law_seed" "_law_seed" (defArgs s__law_seed) (defBody s__law_seed) (defScope s__law_seed) .none kV__law_seed dc__law_seed pm__law_seed an__law_seed cd__law_seed ct__law_seed), sl__law_seed⟩)
    (c__law_seed : codeIn K cd__law_seed "_law_seed" = true)
    (k__law_seed : keepIn K (.ref f__law_seed) = true)
    (a__law_seed : nsIn K mainGlobals "_law_seed" = some (some (.ref f__law_seed)))
    (l__law_choose : K.lookup f__law_choose = some ⟨oc__law_choose, od__law_choose, .func (fnOf "_law_choose" "_law_choose" (defArgs s__law_choose) (defBody s__law_choose) (defScope s__law_choose) .none kV__law_choose dc__law_choose pm__law_choose an__law_choose cd__law_choose ct__law_choose), sl__law_choose⟩)
    (c__law_choose : codeIn K cd__law_choose "_law_choose" = true)
    (k__law_choose : keepIn K (.ref f__law_choose) = true)
    (a__law_choose : nsIn K mainGlobals "_law_choose" = some (some (.ref f__law_choose)))
    (l__law_one_of : K.lookup f__law_one_of = some ⟨oc__law_one_of, od__law_one_of, .func (fnOf "_law_one_of" "_law_one_of" (defArgs s__law_one_of) (defBody s__law_one_of) (defScope s__law_one_of) .none kV__law_one_of dc__law_one_of pm__law_one_of an__law_one_of cd__law_one_of ct__law_one_of), sl__law_one_of⟩)
    (c__law_one_of : codeIn K cd__law_one_of "_law_one_of" = true)
    (k__law_one_of : keepIn K (.ref f__law_one_of) = true)
    (a__law_one_of : nsIn K mainGlobals "_law_one_of" = some (some (.ref f__law_one_of)))
    (l__law_word : K.lookup f__law_word = some ⟨oc__law_word, od__law_word, .func (fnOf "_law_word" "_law_word" (defArgs s__law_word) (defBody s__law_word) (defScope s__law_word) .none kV__law_word dc__law_word pm__law_word an__law_word cd__law_word ct__law_word), sl__law_word⟩)
    (c__law_word : codeIn K cd__law_word "_law_word" = true)
    (k__law_word : keepIn K (.ref f__law_word) = true)
    (a__law_word : nsIn K mainGlobals "_law_word" = some (some (.ref f__law_word)))
    (l__law_words : K.lookup f__law_words = some ⟨oc__law_words, od__law_words, .func (fnOf "_law_words" "_law_words" (defArgs s__law_words) (defBody s__law_words) (defScope s__law_words) .none kV__law_words dc__law_words pm__law_words an__law_words cd__law_words ct__law_words), sl__law_words⟩)
    (c__law_words : codeIn K cd__law_words "_law_words" = true)
    (k__law_words : keepIn K (.ref f__law_words) = true)
    (a__law_words : nsIn K mainGlobals "_law_words" = some (some (.ref f__law_words)))
    (l__law_put : K.lookup f__law_put = some ⟨oc__law_put, od__law_put, .func (fnOf "_law_put" "_law_put" (defArgs s__law_put) (defBody s__law_put) (defScope s__law_put) .none kV__law_put dc__law_put pm__law_put an__law_put cd__law_put ct__law_put), sl__law_put⟩)
    (c__law_put : codeIn K cd__law_put "_law_put" = true)
    (k__law_put : keepIn K (.ref f__law_put) = true)
    (a__law_put : nsIn K mainGlobals "_law_put" = some (some (.ref f__law_put)))
    (l__law_is_rule : K.lookup f__law_is_rule = some ⟨oc__law_is_rule, od__law_is_rule, .func (fnOf "_law_is_rule" "_law_is_rule" (defArgs s__law_is_rule) (defBody s__law_is_rule) (defScope s__law_is_rule) .none kV__law_is_rule dc__law_is_rule pm__law_is_rule an__law_is_rule cd__law_is_rule ct__law_is_rule), sl__law_is_rule⟩)
    (c__law_is_rule : codeIn K cd__law_is_rule "_law_is_rule" = true)
    (k__law_is_rule : keepIn K (.ref f__law_is_rule) = true)
    (a__law_is_rule : nsIn K mainGlobals "_law_is_rule" = some (some (.ref f__law_is_rule)))
    (l__law_word_of : K.lookup f__law_word_of = some ⟨oc__law_word_of, od__law_word_of, .func (fnOf "_law_word_of" "_law_word_of" (defArgs s__law_word_of) (defBody s__law_word_of) (defScope s__law_word_of) .none kV__law_word_of dc__law_word_of pm__law_word_of an__law_word_of cd__law_word_of ct__law_word_of), sl__law_word_of⟩)
    (c__law_word_of : codeIn K cd__law_word_of "_law_word_of" = true)
    (k__law_word_of : keepIn K (.ref f__law_word_of) = true)
    (a__law_word_of : nsIn K mainGlobals "_law_word_of" = some (some (.ref f__law_word_of)))
    (l__law_is_parted : K.lookup f__law_is_parted = some ⟨oc__law_is_parted, od__law_is_parted, .func (fnOf "_law_is_parted" "_law_is_parted" (defArgs s__law_is_parted) (defBody s__law_is_parted) (defScope s__law_is_parted) .none kV__law_is_parted dc__law_is_parted pm__law_is_parted an__law_is_parted cd__law_is_parted ct__law_is_parted), sl__law_is_parted⟩)
    (c__law_is_parted : codeIn K cd__law_is_parted "_law_is_parted" = true)
    (k__law_is_parted : keepIn K (.ref f__law_is_parted) = true)
    (a__law_is_parted : nsIn K mainGlobals "_law_is_parted" = some (some (.ref f__law_is_parted)))
    (l_law : K.lookup f_law = some ⟨oc_law, od_law, .func (fnOf "law" "law" (defArgs s_law) (defBody s_law) (defScope s_law) .none kV_law dc_law pm_law an_law cd_law ct_law), sl_law⟩)
    (c_law : codeIn K cd_law "law" = true)
    (k_law : keepIn K (.ref f_law) = true)
    (a_law : nsIn K mainGlobals "law" = some (some (.ref f_law)))
    (a_FlipError : nsIn K mainGlobals "FlipError" = some (some (.ref C_FlipError)))
    (bL : K.lookup C_FlipError = some (excClassObj nm_FlipError q_FlipError C_FlipError N_FlipError bs_FlipError bm_FlipError hd_FlipError sn_FlipError sub_FlipError ab_FlipError col_FlipError dd_FlipError k0_FlipError k1_FlipError k2_FlipError k3_FlipError k5_FlipError i_FlipError))
    (bI : findIn K (.ref C_FlipError) "__init__" = some (some (.builtin "ValueError.__init__")))
    (xg_InvalidRule : nsIn K mainGlobals "InvalidRule" = some (some (.ref C_InvalidRule)))
    (xL_InvalidRule : K.lookup C_InvalidRule = some (excClassObj nm_InvalidRule q_InvalidRule C_InvalidRule N_InvalidRule bs_InvalidRule bm_InvalidRule true sn_InvalidRule sub_InvalidRule ab_InvalidRule col_InvalidRule dd_InvalidRule k0_InvalidRule k1_InvalidRule k2_InvalidRule k3_InvalidRule k5_InvalidRule "ValueError.__new__"))
    (xve_InvalidRule : HandSPX.refsVE bm_InvalidRule = true)
    (xsa_InvalidRule : findIn K (.ref C_InvalidRule) "__setattr__" = some (some (.builtin "object.__setattr__")))
    (xga_InvalidRule : findIn K (.ref C_InvalidRule) "__getattribute__" = some (some (.builtin "BaseException.__getattribute__")))
    (xgg_InvalidRule : findIn K (.ref C_InvalidRule) "__getattr__" = some none)
    (xno_InvalidRule : findIn K (.ref C_InvalidRule) "word" = some none)
    (xiC_InvalidRule : findIn K (.ref C_InvalidRule) "__init__" = some (some (.ref f_InvalidRule___init__)))
    (xtC_InvalidRule : typeIn K (.ref f_InvalidRule___init__) = some (.type "function"))
    (xkC_InvalidRule : keepIn K (.ref C_InvalidRule) = true)
    (xeC_InvalidRule : subIn K (.ref C_InvalidRule) (.type "BaseException") = some true)
    (xty_InvalidRule : typeIn K (.ref C_InvalidRule) = some (.type "type"))
    (xhd_InvalidRule : hasDictIn K C_InvalidRule = true)
    (xic_InvalidRule : isClsIn K C_InvalidRule = true)
    (xss_InvalidRule : subIn K (.ref C_InvalidRule) (.ref C_InvalidRule) = some true)
    (xtl_InvalidRule : excTail veMro bm_InvalidRule = true)
    (xbF_InvalidRule : bm_InvalidRule = Value.ref C_FlipError :: bm_FlipError)
    (xsv_InvalidRule : subIn K (.ref C_InvalidRule) (.type "ValueError") = some true)
    (xms_InvalidRule : mroIn K C_InvalidRule (.ref C_InvalidRule) = some true)
    (xln_InvalidRule : K.lookup f_InvalidRule___init__ = some ⟨oc_InvalidRule, odx_InvalidRule, .func (ksFn "__init__" "InvalidRule.__init__" (Exc_word.iA ⟨9, 17, 9, 21⟩ ⟨9, 23, 9, 27⟩) (Exc_word.iB "wrong argument of a rule" 0 ⟨10, 8, 10, 13⟩ ⟨10, 8, 10, 15⟩ ⟨10, 8, 10, 24⟩ ⟨10, 25, 10, 51⟩ ⟨10, 53, 10, 57⟩ ⟨10, 8, 10, 58⟩ ⟨10, 8, 10, 58⟩ ⟨11, 8, 11, 12⟩ ⟨11, 8, 11, 17⟩ ⟨11, 20, 11, 24⟩ ⟨11, 8, 11, 24⟩) Exc_word.iS .none .none doc_InvalidRule pm_InvalidRule an_InvalidRule cd_InvalidRule ct_InvalidRule cc_InvalidRule), sl_InvalidRule⟩)
    (xcd_InvalidRule : codeIn K cd_InvalidRule "InvalidRule.__init__" = true)
    (xfi_InvalidRule : fileIn P K cd_InvalidRule = true)
    (xce_InvalidRule : K.lookup cc_InvalidRule = some ⟨oC_InvalidRule, dC_InvalidRule, .cell (some (.ref C_InvalidRule)), sC_InvalidRule⟩)
    (stat : nsIn K cStatics "thirdparty.any" = some none)
    (z_super : nsIn K mainGlobals "super" = some none)
    (noP : (List.lookup ("super" : Str) P.main.scope.names).isSome = false) :
    ∃ A : Ad, ∃ fd : FuncData, (∀ (s : Shared) (v : Value), BindsTo s fd ⟨[v], []⟩ [("_law_script", v)]) ∧ ∀ base : Heap, K.In base → base.Ns mainGlobals mg → FnOk P w K mg base CX0 8 fa fd ["_law_script"] (sp_law K A) := by
  have e : f_law = fa := by
    have q := (mg_of X G a_law).symm.trans hfa
    exact Value.ref.inj (Option.some.inj q)
  subst e
  have F_is_word := fun_mk (st := s_is_word) l_is_word c_is_word k_is_word
  have b_is_word := F_is_word.binds (ps := (["value"] : List Str)) fun _ _ _ _ _ _ us hl => match us, hl with | [_], _ => rfl
  have F_is_bit := fun_mk (st := s_is_bit) l_is_bit c_is_bit k_is_bit
  have b_is_bit := F_is_bit.binds (ps := (["value"] : List Str)) fun _ _ _ _ _ _ us hl => match us, hl with | [_], _ => rfl
  have F_is_sequence := fun_mk (st := s_is_sequence) l_is_sequence c_is_sequence k_is_sequence
  have b_is_sequence := F_is_sequence.binds (ps := (["value"] : List Str)) fun _ _ _ _ _ _ us hl => match us, hl with | [_], _ => rfl
  have F_is_stuff := fun_mk (st := s_is_stuff) l_is_stuff c_is_stuff k_is_stuff
  have b_is_stuff := F_is_stuff.binds (ps := (["value"] : List Str)) fun _ _ _ _ _ _ us hl => match us, hl with | [_], _ => rfl
  have F_are_stuffs := fun_mk (st := s_are_stuffs) l_are_stuffs c_are_stuffs k_are_stuffs
  have b_are_stuffs := F_are_stuffs.binds (ps := (["value"] : List Str)) fun _ _ _ _ _ _ us hl => match us, hl with | [_], _ => rfl
  have F_tail := fun_mk (st := s_tail) l_tail c_tail k_tail
  have b_tail := F_tail.binds (ps := (["line", "size"] : List Str)) fun _ _ _ _ _ _ us hl => match us, hl with | [_, _], _ => rfl
  have F_Rule_longest := fun_mk (st := s_Rule_longest) l_Rule_longest c_Rule_longest k_Rule_longest
  have b_Rule_longest := F_Rule_longest.binds (ps := (["self"] : List Str)) fun _ _ _ _ _ _ us hl => match us, hl with | [_], _ => rfl
  have F_Rule_put := fun_mk (st := s_Rule_put) l_Rule_put c_Rule_put k_Rule_put
  have b_Rule_put := F_Rule_put.binds (ps := (["self", "line"] : List Str)) fun _ _ _ _ _ _ us hl => match us, hl with | [_, _], _ => rfl
  have F_Rule_put_in := fun_mk (st := s_Rule_put_in) l_Rule_put_in c_Rule_put_in k_Rule_put_in
  have b_Rule_put_in := F_Rule_put_in.binds (ps := (["self", "line"] : List Str)) fun _ _ _ _ _ _ us hl => match us, hl with | [_, _], _ => rfl
  have F_Rule_is_endless := fun_mk (st := s_Rule_is_endless) l_Rule_is_endless c_Rule_is_endless k_Rule_is_endless
  have b_Rule_is_endless := F_Rule_is_endless.binds (ps := (["self"] : List Str)) fun _ _ _ _ _ _ us hl => match us, hl with | [_], _ => rfl
  have F_Rule___init__ : FunD K "__init__" "Rule.__init__" (defArgs s_Rule___init__) (defBody s_Rule___init__) (defScope s_Rule___init__) [.ref e_Rule___init__] [] f_Rule___init__ (fnOf "__init__" "Rule.__init__" (defArgs s_Rule___init__) (defBody s_Rule___init__) (defScope s_Rule___init__) (.ref T_Rule___init__) kV_Rule___init__ dc_Rule___init__ pm_Rule___init__ an_Rule___init__ cd_Rule___init__ ct_Rule___init__) := ⟨⟨_, _, _, _, _, _, _, _, _, _, rfl, l_Rule___init__, c_Rule___init__, .inr ⟨by simp, T_Rule___init__, _, [Value.ref e_Rule___init__], _, rfl, lT_Rule___init__, rfl, .cons rfl .nil⟩, .inl rfl⟩, k_Rule___init__⟩
  have b_Rule___init__ : L2.Binds K (fnOf "__init__" "Rule.__init__" (defArgs s_Rule___init__) (defBody s_Rule___init__) (defScope s_Rule___init__) (.ref T_Rule___init__) kV_Rule___init__ dc_Rule___init__ pm_Rule___init__ an_Rule___init__ cd_Rule___init__ ct_Rule___init__) (["self", "flag", "stuffs"] : List Str) [] := binds_full F_Rule___init__ (by simp) fun _ _ _ _ _ _ _ us its hl hi => match us, its, hl, hi with | [_, _, _], [_], _, _ => ⟨_, rfl, rfl⟩
  have F__law_seed := fun_mk (st := s__law_seed) l__law_seed c__law_seed k__law_seed
  have b__law_seed := F__law_seed.binds (ps := (["_law_script", "_law_k"] : List Str)) fun _ _ _ _ _ _ us hl => match us, hl with | [_, _], _ => rfl
  have F__law_choose := fun_mk (st := s__law_choose) l__law_choose c__law_choose k__law_choose
  have b__law_choose := F__law_choose.binds (ps := (["_law_box", "_law_many"] : List Str)) fun _ _ _ _ _ _ us hl => match us, hl with | [_, _], _ => rfl
  have F__law_one_of := fun_mk (st := s__law_one_of) l__law_one_of c__law_one_of k__law_one_of
  have b__law_one_of := F__law_one_of.binds (ps := (["_law_box", "_law_some"] : List Str)) fun _ _ _ _ _ _ us hl => match us, hl with | [_, _], _ => rfl
  have F__law_word := fun_mk (st := s__law_word) l__law_word c__law_word k__law_word
  have b__law_word := F__law_word.binds (ps := (["_law_box", "_law_few", "_law_many"] : List Str)) fun _ _ _ _ _ _ us hl => match us, hl with | [_, _, _], _ => rfl
  have F__law_words := fun_mk (st := s__law_words) l__law_words c__law_words k__law_words
  have b__law_words := F__law_words.binds (ps := (["_law_size"] : List Str)) fun _ _ _ _ _ _ us hl => match us, hl with | [_], _ => rfl
  have F__law_put := fun_mk (st := s__law_put) l__law_put c__law_put k__law_put
  have b__law_put := F__law_put.binds (ps := (["_law_rule", "_law_line"] : List Str)) fun _ _ _ _ _ _ us hl => match us, hl with | [_, _], _ => rfl
  have F__law_is_rule := fun_mk (st := s__law_is_rule) l__law_is_rule c__law_is_rule k__law_is_rule
  have b__law_is_rule := F__law_is_rule.binds (ps := (["_law_rule"] : List Str)) fun _ _ _ _ _ _ us hl => match us, hl with | [_], _ => rfl
  have F__law_word_of := fun_mk (st := s__law_word_of) l__law_word_of c__law_word_of k__law_word_of
  have b__law_word_of := F__law_word_of.binds (ps := (["_law_stuffs"] : List Str)) fun _ _ _ _ _ _ us hl => match us, hl with | [_], _ => rfl
  have F__law_is_parted := fun_mk (st := s__law_is_parted) l__law_is_parted c__law_is_parted k__law_is_parted
  have b__law_is_parted := F__law_is_parted.binds (ps := (["_law_stuffs"] : List Str)) fun _ _ _ _ _ _ us hl => match us, hl with | [_], _ => rfl
  have F_law := fun_mk (st := s_law) l_law c_law k_law
  have b_law := F_law.binds (ps := (["_law_script"] : List Str)) fun _ _ _ _ _ _ us hl => match us, hl with | [_], _ => rfl
  have T : Txt P K mg { C_Rule := C_Rule, C_InvalidRule := C_InvalidRule } { t_BITS := t_BITS, f_is_word := f_is_word, d_is_word := fnOf "is_word" "is_word" (defArgs s_is_word) (defBody s_is_word) (defScope s_is_word) .none kV_is_word dc_is_word pm_is_word an_is_word cd_is_word ct_is_word, f_is_bit := f_is_bit, d_is_bit := fnOf "is_bit" "is_bit" (defArgs s_is_bit) (defBody s_is_bit) (defScope s_is_bit) .none kV_is_bit dc_is_bit pm_is_bit an_is_bit cd_is_bit ct_is_bit, f_is_sequence := f_is_sequence, d_is_sequence := fnOf "is_sequence" "is_sequence" (defArgs s_is_sequence) (defBody s_is_sequence) (defScope s_is_sequence) .none kV_is_sequence dc_is_sequence pm_is_sequence an_is_sequence cd_is_sequence ct_is_sequence, f_is_stuff := f_is_stuff, d_is_stuff := fnOf "is_stuff" "is_stuff" (defArgs s_is_stuff) (defBody s_is_stuff) (defScope s_is_stuff) .none kV_is_stuff dc_is_stuff pm_is_stuff an_is_stuff cd_is_stuff ct_is_stuff, f_are_stuffs := f_are_stuffs, d_are_stuffs := fnOf "are_stuffs" "are_stuffs" (defArgs s_are_stuffs) (defBody s_are_stuffs) (defScope s_are_stuffs) .none kV_are_stuffs dc_are_stuffs pm_are_stuffs an_are_stuffs cd_are_stuffs ct_are_stuffs, f_tail := f_tail, d_tail := fnOf "tail" "tail" (defArgs s_tail) (defBody s_tail) (defScope s_tail) .none kV_tail dc_tail pm_tail an_tail cd_tail ct_tail, f_Rule_longest := f_Rule_longest, d_Rule_longest := fnOf "longest" "Rule.longest" (defArgs s_Rule_longest) (defBody s_Rule_longest) (defScope s_Rule_longest) .none kV_Rule_longest dc_Rule_longest pm_Rule_longest an_Rule_longest cd_Rule_longest ct_Rule_longest, p_Rule_longest := p_Rule_longest, f_Rule_put := f_Rule_put, d_Rule_put := fnOf "put" "Rule.put" (defArgs s_Rule_put) (defBody s_Rule_put) (defScope s_Rule_put) .none kV_Rule_put dc_Rule_put pm_Rule_put an_Rule_put cd_Rule_put ct_Rule_put, f_Rule_put_in := f_Rule_put_in, d_Rule_put_in := fnOf "put_in" "Rule.put_in" (defArgs s_Rule_put_in) (defBody s_Rule_put_in) (defScope s_Rule_put_in) .none kV_Rule_put_in dc_Rule_put_in pm_Rule_put_in an_Rule_put_in cd_Rule_put_in ct_Rule_put_in, f_Rule_is_endless := f_Rule_is_endless, d_Rule_is_endless := fnOf "is_endless" "Rule.is_endless" (defArgs s_Rule_is_endless) (defBody s_Rule_is_endless) (defScope s_Rule_is_endless) .none kV_Rule_is_endless dc_Rule_is_endless pm_Rule_is_endless an_Rule_is_endless cd_Rule_is_endless ct_Rule_is_endless, f_Rule___init__ := f_Rule___init__, d_Rule___init__ := fnOf "__init__" "Rule.__init__" (defArgs s_Rule___init__) (defBody s_Rule___init__) (defScope s_Rule___init__) (.ref T_Rule___init__) kV_Rule___init__ dc_Rule___init__ pm_Rule___init__ an_Rule___init__ cd_Rule___init__ ct_Rule___init__, e_Rule___init__ := e_Rule___init__, f__law_seed := f__law_seed, d__law_seed := fnOf "_law_seed" "_law_seed" (defArgs s__law_seed) (defBody s__law_seed) (defScope s__law_seed) .none kV__law_seed dc__law_seed pm__law_seed an__law_seed cd__law_seed ct__law_seed, f__law_choose := f__law_choose, d__law_choose := fnOf "_law_choose" "_law_choose" (defArgs s__law_choose) (defBody s__law_choose) (defScope s__law_choose) .none kV__law_choose dc__law_choose pm__law_choose an__law_choose cd__law_choose ct__law_choose, f__law_one_of := f__law_one_of, d__law_one_of := fnOf "_law_one_of" "_law_one_of" (defArgs s__law_one_of) (defBody s__law_one_of) (defScope s__law_one_of) .none kV__law_one_of dc__law_one_of pm__law_one_of an__law_one_of cd__law_one_of ct__law_one_of, f__law_word := f__law_word, d__law_word := fnOf "_law_word" "_law_word" (defArgs s__law_word) (defBody s__law_word) (defScope s__law_word) .none kV__law_word dc__law_word pm__law_word an__law_word cd__law_word ct__law_word, f__law_words := f__law_words, d__law_words := fnOf "_law_words" "_law_words" (defArgs s__law_words) (defBody s__law_words) (defScope s__law_words) .none kV__law_words dc__law_words pm__law_words an__law_words cd__law_words ct__law_words, f__law_put := f__law_put, d__law_put := fnOf "_law_put" "_law_put" (defArgs s__law_put) (defBody s__law_put) (defScope s__law_put) .none kV__law_put dc__law_put pm__law_put an__law_put cd__law_put ct__law_put, f__law_is_rule := f__law_is_rule, d__law_is_rule := fnOf "_law_is_rule" "_law_is_rule" (defArgs s__law_is_rule) (defBody s__law_is_rule) (defScope s__law_is_rule) .none kV__law_is_rule dc__law_is_rule pm__law_is_rule an__law_is_rule cd__law_is_rule ct__law_is_rule, f__law_word_of := f__law_word_of, d__law_word_of := fnOf "_law_word_of" "_law_word_of" (defArgs s__law_word_of) (defBody s__law_word_of) (defScope s__law_word_of) .none kV__law_word_of dc__law_word_of pm__law_word_of an__law_word_of cd__law_word_of ct__law_word_of, f__law_is_parted := f__law_is_parted, d__law_is_parted := fnOf "_law_is_parted" "_law_is_parted" (defArgs s__law_is_parted) (defBody s__law_is_parted) (defScope s__law_is_parted) .none kV__law_is_parted dc__law_is_parted pm__law_is_parted an__law_is_parted cd__law_is_parted ct__law_is_parted, f_law := f_law, d_law := fnOf "law" "law" (defArgs s_law) (defBody s_law) (defScope s_law) .none kV_law dc_law pm_law an_law cd_law ct_law, f_InvalidRule___init__ := f_InvalidRule___init__ } := {
    tx := { cl_Rule := ⟨pg_Rule, hd_Rule, po_Rule, sa_Rule⟩, na_flag := na_flag, na_stuffs := na_stuffs, i_class := i_class, i_special := i_special, i_takes := i_takes, i_object := i_object, k_str := kit_own ki_str (by decide +kernel), k_int := kit_own ki_int (by decide +kernel), k_list := kit_own ki_list (by decide +kernel), k_tuple := kit_own ki_tuple (by decide +kernel), te_InvalidRule := exm_self xeC_InvalidRule xic_InvalidRule xty_InvalidRule xss_InvalidRule },
    m_BITS := mg_of X G n_BITS,
    no_abs := mg_none_of X G z_abs,
    no_all := mg_none_of X G z_all,
    no_any := mg_none_of X G z_any,
    no_enumerate := mg_none_of X G z_enumerate,
    no_int := mg_none_of X G z_int,
    no_isinstance := mg_none_of X G z_isinstance,
    no_len := mg_none_of X G z_len,
    no_list := mg_none_of X G z_list,
    no_max := mg_none_of X G z_max,
    no_min := mg_none_of X G z_min,
    no_range := mg_none_of X G z_range,
    no_sorted := mg_none_of X G z_sorted,
    no_str := mg_none_of X G z_str,
    no_tuple := mg_none_of X G z_tuple,
    m_Rule := mg_of X G a_Rule,
    mk_Rule := ⟨mk_Rule, at_Rule___init__, i_Rule___init__, kc_Rule⟩,
    b_is_word := b_is_word,
    k_is_word := k_is_word,
    F_is_word := F_is_word,
    m_is_word := mg_of X G a_is_word,
    b_is_bit := b_is_bit,
    k_is_bit := k_is_bit,
    F_is_bit := F_is_bit,
    m_is_bit := mg_of X G a_is_bit,
    b_is_sequence := b_is_sequence,
    k_is_sequence := k_is_sequence,
    F_is_sequence := F_is_sequence,
    m_is_sequence := mg_of X G a_is_sequence,
    b_is_stuff := b_is_stuff,
    k_is_stuff := k_is_stuff,
    F_is_stuff := F_is_stuff,
    m_is_stuff := mg_of X G a_is_stuff,
    b_are_stuffs := b_are_stuffs,
    k_are_stuffs := k_are_stuffs,
    F_are_stuffs := F_are_stuffs,
    m_are_stuffs := mg_of X G a_are_stuffs,
    b_tail := b_tail,
    k_tail := k_tail,
    F_tail := F_tail,
    m_tail := mg_of X G a_tail,
    b_Rule_longest := b_Rule_longest,
    k_Rule_longest := k_Rule_longest,
    F_Rule_longest := F_Rule_longest,
    pr_Rule_longest := ⟨at_Rule_longest, sp_Rule_longest, tk_Rule_longest, ⟨_, re_Rule_longest⟩⟩,
    b_Rule_put := b_Rule_put,
    k_Rule_put := k_Rule_put,
    F_Rule_put := F_Rule_put,
    me_Rule_put := ⟨at_Rule_put, i_Rule_put, k_Rule_put⟩,
    b_Rule_put_in := b_Rule_put_in,
    k_Rule_put_in := k_Rule_put_in,
    F_Rule_put_in := F_Rule_put_in,
    me_Rule_put_in := ⟨at_Rule_put_in, i_Rule_put_in, k_Rule_put_in⟩,
    b_Rule_is_endless := b_Rule_is_endless,
    k_Rule_is_endless := k_Rule_is_endless,
    F_Rule_is_endless := F_Rule_is_endless,
    me_Rule_is_endless := ⟨at_Rule_is_endless, i_Rule_is_endless, k_Rule_is_endless⟩,
    b_Rule___init__ := b_Rule___init__,
    k_Rule___init__ := k_Rule___init__,
    F_Rule___init__ := F_Rule___init__,
    me_Rule___init__ := ⟨at_Rule___init__, i_Rule___init__, k_Rule___init__⟩,
    b__law_seed := b__law_seed,
    k__law_seed := k__law_seed,
    F__law_seed := F__law_seed,
    m__law_seed := mg_of X G a__law_seed,
    b__law_choose := b__law_choose,
    k__law_choose := k__law_choose,
    F__law_choose := F__law_choose,
    m__law_choose := mg_of X G a__law_choose,
    b__law_one_of := b__law_one_of,
    k__law_one_of := k__law_one_of,
    F__law_one_of := F__law_one_of,
    m__law_one_of := mg_of X G a__law_one_of,
    b__law_word := b__law_word,
    k__law_word := k__law_word,
    F__law_word := F__law_word,
    m__law_word := mg_of X G a__law_word,
    b__law_words := b__law_words,
    k__law_words := k__law_words,
    F__law_words := F__law_words,
    m__law_words := mg_of X G a__law_words,
    b__law_put := b__law_put,
    k__law_put := k__law_put,
    F__law_put := F__law_put,
    m__law_put := mg_of X G a__law_put,
    b__law_is_rule := b__law_is_rule,
    k__law_is_rule := k__law_is_rule,
    F__law_is_rule := F__law_is_rule,
    m__law_is_rule := mg_of X G a__law_is_rule,
    b__law_word_of := b__law_word_of,
    k__law_word_of := k__law_word_of,
    F__law_word_of := F__law_word_of,
    m__law_word_of := mg_of X G a__law_word_of,
    b__law_is_parted := b__law_is_parted,
    k__law_is_parted := k__law_is_parted,
    F__law_is_parted := F__law_is_parted,
    m__law_is_parted := mg_of X G a__law_is_parted,
    b_law := b_law,
    k_law := k_law,
    F_law := F_law,
    m_law := mg_of X G a_law,
    ex_InvalidRule := { gC := mg_of X G xg_InvalidRule, cls := ⟨_, _, _, _, _, _, _, _, _, _, _, _, _, _, _, xL_InvalidRule, xve_InvalidRule⟩, sa := xsa_InvalidRule, ga := xga_InvalidRule, gg := xgg_InvalidRule, noN := xno_InvalidRule, iC := xiC_InvalidRule, tC := xtC_InvalidRule, kC := xkC_InvalidRule, exC := xeC_InvalidRule, tyC := xty_InvalidRule, hdC := xhd_InvalidRule, te := exm_self xeC_InvalidRule xic_InvalidRule xty_InvalidRule xss_InvalidRule, along := along_of xL_InvalidRule bL xbF_InvalidRule bI, ve := xsv_InvalidRule, self := xms_InvalidRule, stat := stat, exi := exi_of xL_InvalidRule xtl_InvalidRule, noS := mg_none_of X G z_super, noP := noP, fn := ⟨_, _, _, _, _, _, _, _, _, _, _, _, _, _, _, _, _, _, _, _, _, _, _, _, _, _, _, _, xln_InvalidRule, by decide, xcd_InvalidRule, xfi_InvalidRule, xce_InvalidRule⟩ } }
  exact ⟨_, _, fun s v => .of_eq rfl, fun base _ _ => ok_law T⟩
theorem walk {l : PySem.W.OpenLaw} {q : Program} {loose : List Str} {XP : (Str → Option Value) → Heap → Prop} {YP : World → Heap → Prop} {d : DefRec} {K : Params → PySem.W.Frag} (hn : l.most = some 63) (hdf : d.params.defaults = [])
    (hY : ∀ (w : World) (h : Heap), YP w h → (K w.params).In h)
    (F : ∀ (w : World) (mg : Str → Option Value) (fa : Addr) (h : Heap), (K w.params).In h → h.Ns mainGlobals mg → mg d.name = some (.ref fa) →
      ∃ A : Ad, ∃ fd : FuncData, (∀ (s : Shared) (u : Value), BindsTo s fd ⟨[u], []⟩ [("_law_script", u)]) ∧ ∀ base : Heap, (K w.params).In base → base.Ns mainGlobals mg → FnOk l.prog w (K w.params) mg base CX0 8 fa fd ["_law_script"] (sp_law (K w.params) A)) :
    PySem.W.WalkO q loose XP YP l.row.toRowW d [] (fun f vs => PySem.call f vs) :=
  L2.walk_of (n := 63) (k := 8) (x := "_law_script") (CX := fun _ => CX0) (sp := fun w => sp_top (K w.params)) hn (by decide) hdf ⟨rfl, by decide, by decide⟩ hY (fun w mg fa h X G e => by
    obtain ⟨A, fd, h1, h2⟩ := F w mg fa h X G e
    exact ⟨fd, h1, fun base X' G' => fnok_top (h2 base X' G')⟩) (fun _ _ a ns hl _ hS => ⟨a, ns, rfl, hS, hl, fun _ => rfl⟩) fun _ _ _ _ _ z => z
end Fl
open PySem PySem.W PyProof.Rows
set_option maxRecDepth 100000 in
set_option maxHeartbeats 0 in
theorem PySem.Challenge.cw_unseenflips_k07_rules_without_end_holds : PySem.Challenge.rw_unseenflips_k07_rules_without_end.Holds := by
  w_on; o_law; k_head; (case hw => w_witness2)
  k_fill
  refine Fl.walk (l := PySem.Challenge.rw_unseenflips_k07_rules_without_end) rfl rfl (fun w h Y => PySem.W.kIn_of Y) ?F
  case F =>
    intro w mg fa h KX G hmg
    refine' Fl.all_mk KX G hmg ?n_BITS ?z_abs ?z_all ?z_any ?z_enumerate ?z_int ?z_isinstance ?z_len ?z_list ?z_max ?z_min ?z_range ?z_sorted ?z_str ?z_tuple ?a_Rule ?pg_Rule ?hd_Rule ?po_Rule ?sa_Rule ?mk_Rule ?kc_Rule ?na_flag ?na_stuffs ?i_class ?i_special ?i_takes ?i_object ?ki_str ?ki_int ?ki_list ?ki_tuple ?l_is_word ?c_is_word ?k_is_word ?a_is_word ?l_is_bit ?c_is_bit ?k_is_bit ?a_is_bit ?l_is_sequence ?c_is_sequence ?k_is_sequence ?a_is_sequence ?l_is_stuff ?c_is_stuff ?k_is_stuff ?a_is_stuff ?l_are_stuffs ?c_are_stuffs ?k_are_stuffs ?a_are_stuffs ?l_tail ?c_tail ?k_tail ?a_tail ?l_Rule_longest ?c_Rule_longest ?k_Rule_longest ?at_Rule_longest ?sp_Rule_longest ?tk_Rule_longest ?re_Rule_longest ?l_Rule_put ?c_Rule_put ?k_Rule_put ?at_Rule_put ?i_Rule_put ?l_Rule_put_in ?c_Rule_put_in ?k_Rule_put_in ?at_Rule_put_in ?i_Rule_put_in ?l_Rule_is_endless ?c_Rule_is_endless ?k_Rule_is_endless ?at_Rule_is_endless ?i_Rule_is_endless ?lT_Rule___init__ ?l_Rule___init__ ?c_Rule___init__ ?k_Rule___init__ ?at_Rule___init__ ?i_Rule___init__ ?l__law_seed ?c__law_seed ?k__law_seed ?a__law_seed ?l__law_choose ?c__law_choose ?k__law_choose ?a__law_choose ?l__law_one_of ?c__law_one_of ?k__law_one_of ?a__law_one_of ?l__law_word ?c__law_word ?k__law_word ?a__law_word ?l__law_words ?c__law_words ?k__law_words ?a__law_words ?l__law_put ?c__law_put ?k__law_put ?a__law_put ?l__law_is_rule ?c__law_is_rule ?k__law_is_rule ?a__law_is_rule ?l__law_word_of ?c__law_word_of ?k__law_word_of ?a__law_word_of ?l__law_is_parted ?c__law_is_parted ?k__law_is_parted ?a__law_is_parted ?l_law ?c_law ?k_law ?a_law ?a_FlipError ?bL ?bI ?xg_InvalidRule ?xL_InvalidRule ?xve_InvalidRule ?xsa_InvalidRule ?xga_InvalidRule ?xgg_InvalidRule ?xno_InvalidRule ?xiC_InvalidRule ?xtC_InvalidRule ?xkC_InvalidRule ?xeC_InvalidRule ?xty_InvalidRule ?xhd_InvalidRule ?xic_InvalidRule ?xss_InvalidRule ?xtl_InvalidRule ?xbF_InvalidRule ?xsv_InvalidRule ?xms_InvalidRule ?xln_InvalidRule ?xcd_InvalidRule ?xfi_InvalidRule ?xce_InvalidRule ?stat ?z_super ?noP
    (case n_BITS => k_is)
    (case a_Rule => k_is)
    (case a_is_word => k_is)
    (case a_is_bit => k_is)
    (case a_is_sequence => k_is)
    (case a_is_stuff => k_is)
    (case a_are_stuffs => k_is)
    (case a_tail => k_is)
    (case at_Rule_longest => k_is)
    (case at_Rule_put => k_is)
    (case at_Rule_put_in => k_is)
    (case at_Rule_is_endless => k_is)
    (case at_Rule___init__ => k_is)
    (case a__law_seed => k_is)
    (case a__law_choose => k_is)
    (case a__law_one_of => k_is)
    (case a__law_word => k_is)
    (case a__law_words => k_is)
    (case a__law_put => k_is)
    (case a__law_is_rule => k_is)
    (case a__law_word_of => k_is)
    (case a__law_is_parted => k_is)
    (case a_law => k_is)
    (case a_FlipError => k_is)
    (case xg_InvalidRule => k_is)
    (case re_Rule_longest => k_is)
    (case xiC_InvalidRule => k_is)
    (case l_is_word => k_is)
    (case l_is_bit => k_is)
    (case l_is_sequence => k_is)
    (case l_is_stuff => k_is)
    (case l_are_stuffs => k_is)
    (case l_tail => k_is)
    (case l_Rule_longest => k_is)
    (case l_Rule_put => k_is)
    (case l_Rule_put_in => k_is)
    (case l_Rule_is_endless => k_is)
    (case l_Rule___init__ => k_is)
    (case l__law_seed => k_is)
    (case l__law_choose => k_is)
    (case l__law_one_of => k_is)
    (case l__law_word => k_is)
    (case l__law_words => k_is)
    (case l__law_put => k_is)
    (case l__law_is_rule => k_is)
    (case l__law_word_of => k_is)
    (case l__law_is_parted => k_is)
    (case l_law => k_is)
    (case bL => k_is)
    (case xL_InvalidRule => k_is)
    (case xln_InvalidRule => k_is)
    (case lT_Rule___init__ => k_is)
    (case xce_InvalidRule => k_is)
    (case z_abs => k_is)
    (case z_all => k_is)
    (case z_any => k_is)
    (case z_enumerate => k_is)
    (case z_int => k_is)
    (case z_isinstance => k_is)
    (case z_len => k_is)
    (case z_list => k_is)
    (case z_max => k_is)
    (case z_min => k_is)
    (case z_range => k_is)
    (case z_sorted => k_is)
    (case z_str => k_is)
    (case z_tuple => k_is)
    (case pg_Rule => k_is)
    (case hd_Rule => k_is)
    (case po_Rule => k_is)
    (case sa_Rule => k_is)
    (case mk_Rule => k_is)
    (case kc_Rule => k_is)
    (case na_flag => k_is)
    (case na_stuffs => k_is)
    (case i_class => k_is)
    (case i_special => k_is)
    (case i_takes => k_is)
    (case i_object => k_is)
    (case ki_str => k_is)
    (case ki_int => k_is)
    (case ki_list => k_is)
    (case ki_tuple => k_is)
    (case c_is_word => k_is)
    (case k_is_word => k_is)
    (case c_is_bit => k_is)
    (case k_is_bit => k_is)
    (case c_is_sequence => k_is)
    (case k_is_sequence => k_is)
    (case c_is_stuff => k_is)
    (case k_is_stuff => k_is)
    (case c_are_stuffs => k_is)
    (case k_are_stuffs => k_is)
    (case c_tail => k_is)
    (case k_tail => k_is)
    (case c_Rule_longest => k_is)
    (case k_Rule_longest => k_is)
    (case sp_Rule_longest => k_is)
    (case tk_Rule_longest => k_is)
    (case c_Rule_put => k_is)
    (case k_Rule_put => k_is)
    (case i_Rule_put => k_is)
    (case c_Rule_put_in => k_is)
    (case k_Rule_put_in => k_is)
    (case i_Rule_put_in => k_is)
    (case c_Rule_is_endless => k_is)
    (case k_Rule_is_endless => k_is)
    (case i_Rule_is_endless => k_is)
    (case c_Rule___init__ => k_is)
    (case k_Rule___init__ => k_is)
    (case i_Rule___init__ => k_is)
    (case c__law_seed => k_is)
    (case k__law_seed => k_is)
    (case c__law_choose => k_is)
    (case k__law_choose => k_is)
    (case c__law_one_of => k_is)
    (case k__law_one_of => k_is)
    (case c__law_word => k_is)
    (case k__law_word => k_is)
    (case c__law_words => k_is)
    (case k__law_words => k_is)
    (case c__law_put => k_is)
    (case k__law_put => k_is)
    (case c__law_is_rule => k_is)
    (case k__law_is_rule => k_is)
    (case c__law_word_of => k_is)
    (case k__law_word_of => k_is)
    (case c__law_is_parted => k_is)
    (case k__law_is_parted => k_is)
    (case c_law => k_is)
    (case k_law => k_is)
    (case bI => k_is)
    (case xve_InvalidRule => decide +kernel)
    (case xsa_InvalidRule => k_is)
    (case xga_InvalidRule => k_is)
    (case xgg_InvalidRule => k_is)
    (case xno_InvalidRule => k_is)
    (case xtC_InvalidRule => k_is)
    (case xkC_InvalidRule => k_is)
    (case xeC_InvalidRule => k_is)
    (case xty_InvalidRule => k_is)
    (case xhd_InvalidRule => k_is)
    (case xic_InvalidRule => k_is)
    (case xss_InvalidRule => first | k_is | rfl)
    (case xtl_InvalidRule => decide +kernel)
    (case xbF_InvalidRule => first | rfl | decide +kernel)
    (case xsv_InvalidRule => k_is)
    (case xms_InvalidRule => first | k_is | rfl)
    (case xcd_InvalidRule => k_is)
    (case xfi_InvalidRule => first | k_is | rfl | decide +kernel)
    (case stat => k_is)
    (case z_super => k_is)
    (case noP => first | rfl | decide +kernel)
