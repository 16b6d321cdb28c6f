import PyProof.Rows.All
import Wide.All
import OpenK.AllK
import Wide.FinOn
import HandS.ForMost
import HandS.Wide
import HandS.IsInst
import HandS.Defaults
import HandS.Codes
import PyProof.InstNe
import HandS.Style
import HandS.MakeKw
import HandS.ForExc
import HandS.ExcInit
import HandS.ExcField
import HandS.ExcIs
import PyProof.ReprRoads
import PyProof.ReprLen
import HandS.Text
import HandS.Walk
import PyProof.NeKinds
import HandS.Star
import HandS.Sort
import HandS.SortInts
import HandS.Conv
import HandS.Iter
import PyProof.Rows.AssignMoreSeq
import HandS.Dict
import PySem.Challenge.RW_windowrows_k92_whole_matchings_against_a
set_option Elab.async false
set_option linter.all false
set_option maxRecDepth 100000
set_option maxHeartbeats 2000000
namespace Wr
open PySem PySem.Spec PyProof.Rows L2
/-! ### readings, one lemma a construct: what is left to be shown behind it -/
section
variable {σ : L2.St} {H : Hp} {Q : VK} {QB : Bool → Hp → Prop} {QA : List V → Hp → Prop} {D : Ends} {t u : TS} {te ta tb : TE} {tt tu : TT} {i j : Int} {v : V} {K : PySem.W.Frag}
theorem r_seq (h : t { D with nx := u D } σ H) : tSeq t u D σ H := h
theorem r_next (h : D.nx σ H) : tNext D σ H := h
theorem r_asg {g : TG} (h : te σ H fun x H1 => g x σ H1 D.nx) : tAsg te g D σ H := h
theorem r_drop (h : te σ H fun _ H1 => D.nx σ H1) : tDrop te D σ H := h
theorem r_ret (h : te σ H D.rt) : tRet te D σ H := h
theorem r_ifs (h : tt σ H fun b H1 => if b = true then t D σ H1 else u D σ H1) : tIfS tt t u D σ H := h
theorem r_gname {n : Nat} {QS : L2.St → Hp → Prop} (h : QS (σ.set n (some v)) H) : gName n v σ H QS := h
theorem r_gsub {to ti : TE} {s : TSet} {QS : L2.St → Hp → Prop} (h : to σ H fun o H1 => ti σ H1 fun i H2 => s o i v H2 fun H3 => QS σ H3) : gSub to ti s v σ H QS := h
theorem r_gtup {n : Nat} {tg : TGs} {a : Addr} {xs : List V} {QS : L2.St → Hp → Prop} (h1 : SqT K H a xs) (h2 : xs.length = n) (h : tg xs σ H QS) : gTup K n tg (.ref a) σ H QS := ⟨a, xs, rfl, h1, h2, h⟩
theorem r_gcons {g : TG} {tg : TGs} {xs : List V} {QS : L2.St → Hp → Prop} (h : g v σ H fun s' H' => tg xs s' H' QS) : gCons g tg (v :: xs) σ H QS := ⟨v, xs, rfl, h⟩
theorem r_gnil {QS : L2.St → Hp → Prop} (h : QS σ H) : gNil [] σ H QS := ⟨rfl, h⟩
theorem r_var {n : Nat} (e : σ[n]? = some (some v)) (h : Q v H) : tVar n σ H Q := ⟨v, e, h⟩
theorem r_c (h : Q v H) : tC v σ H Q := h
theorem r_op {r : R2} (h : ta σ H fun x H1 => tb σ H1 fun y H2 => r x y H2 Q) : tOp r ta tb σ H Q := h
theorem r_un {r : V → Hp → VK → Prop} (h : ta σ H fun x H1 => r x H1 Q) : tUn r ta σ H Q := h
theorem r_I {C : Int → Int → Prop} {g : Int → Int → V} (c : C i j) (h : Q (g i j) H) : rI C g (.int i) (.int j) H Q := ⟨i, j, rfl, rfl, c, h⟩
theorem r_I0 {g : Int → Int → V} (h : Q (g i j) H) : rI0 g (.int i) (.int j) H Q := ⟨i, j, rfl, rfl, h⟩
theorem r_U {g : Int → V} (h : Q (g i) H) : rU g (.int i) H Q := ⟨i, rfl, h⟩
theorem r_test (h : te σ H fun x H1 => ∃ k, x = .bl k ∧ QB k H1) : tTest te σ H QB := h
theorem r_tB (h : te σ H fun x H1 => ∃ k, x = .bl k ∧ QB k H1) : tB te σ H QB := h
theorem r_bl {b : Bool} {F : Bool → Prop} (h : F b) : ∃ k, V.bl b = .bl k ∧ F k := ⟨b, rfl, h⟩
theorem r_and (h : tt σ H fun c H1 => if c = true then tu σ H1 QB else QB false H1) : tAnd tt tu σ H QB := h
theorem r_or (h : tt σ H fun c H1 => if c = true then QB true H1 else tu σ H1 QB) : tOr tt tu σ H QB := h
theorem r_not (h : tt σ H fun c H1 => QB (!c) H1) : tNot tt σ H QB := h
theorem r_andV (h : ta σ H fun x H1 => ∃ c, x = .bl c ∧ if c = true then tb σ H1 Q else Q (.bl false) H1) : tAndV ta tb σ H Q := h
theorem r_orV (h : ta σ H fun x H1 => ∃ c, x = .bl c ∧ if c = true then Q (.bl true) H1 else tb σ H1 Q) : tOrV ta tb σ H Q := h
theorem r_notV (h : ta σ H fun x H1 => ∃ c, x = .bl c ∧ Q (.bl (!c)) H1) : tNotV ta σ H Q := h
theorem r_ife (h : tt σ H fun c H1 => if c = true then ta σ H1 Q else tb σ H1 Q) : tIf tt ta tb σ H Q := h
theorem eq_dint : decide (V.int i = V.int j) = decide (i = j) := by
  by_cases e : i = j
  · rw [e, decide_eq_true rfl, decide_eq_true rfl]
  · rw [decide_eq_false e, decide_eq_false fun z => e (V.int.inj z)]
theorem eq_dbl {a b : Bool} : decide (V.bl a = V.bl b) = (a == b) := by cases a <;> cases b <;> rfl
theorem eq_dstr {a b : Str} : decide (V.str a = V.str b) = decide (a = b) := by
  by_cases e : a = b
  · rw [e, decide_eq_true rfl, decide_eq_true rfl]
  · rw [decide_eq_false e, decide_eq_false fun z => e (V.str.inj z)]
theorem r_eqI (h : Q (.bl (decide (i = j))) H) : rEq (.int i) (.int j) H Q := ⟨rfl, by rw [eq_dint]; exact h⟩
theorem r_neI (h : Q (.bl (!decide (i = j))) H) : rNe (.int i) (.int j) H Q := ⟨rfl, by rw [eq_dint]; exact h⟩
theorem r_eqB {a b : Bool} (h : Q (.bl (a == b)) H) : rEq (.bl a) (.bl b) H Q := ⟨rfl, by rw [eq_dbl]; exact h⟩
theorem r_neB {a b : Bool} (h : Q (.bl (!(a == b))) H) : rNe (.bl a) (.bl b) H Q := ⟨rfl, by rw [eq_dbl]; exact h⟩
theorem r_eqS {a b : Str} (h : Q (.bl (decide (a = b))) H) : rEq (.str a) (.str b) H Q := ⟨rfl, by rw [eq_dstr]; exact h⟩
theorem r_neS {a b : Str} (h : Q (.bl (!decide (a = b))) H) : rNe (.str a) (.str b) H Q := ⟨rfl, by rw [eq_dstr]; exact h⟩
theorem r_ixL {p : Addr} {xs : List V} (h1 : SqL K H p xs) (h2 : atI xs i = some v) (h : Q v H) : rIxL K (.ref p) (.int i) H Q := ⟨p, xs, i, v, rfl, rfl, h1, h2, h⟩
theorem r_ixT {p : Addr} {xs : List V} (h1 : SqT K H p xs) (h2 : atI xs i = some v) (h : Q v H) : rIxT K (.ref p) (.int i) H Q := ⟨p, xs, i, v, rfl, rfl, h1, h2, h⟩
theorem r_setL {p : Addr} {xs : List V} {n : Nat} {QH : Hp → Prop} (h1 : H p = some (.lst xs)) (h2 : ixN xs.length i = some n) (h : QH (upd H p (.lst (xs.set n v)))) : rSetL (.ref p) (.int i) v H QH := ⟨p, xs, i, n, rfl, rfl, h1, h2, h⟩
theorem r_nil (h : QA [] H) : tNil σ H QA := h
theorem r_cons {tr : TA} (h : te σ H fun x H1 => tr σ H1 fun xs H2 => QA (x :: xs) H2) : tCons te tr σ H QA := h
theorem r_cb {r : List V → Hp → VK → Prop} {ts : TA} (h : ts σ H fun vs H1 => r vs H1 Q) : tCB r ts σ H Q := h
theorem r_call {sp : Sp} {dvs : List V} {E : XK} {ts : TA} (h : ts σ H fun vs H1 => sp (vs ++ dvs) H1 Q E) : tCall sp dvs E ts σ H Q := h
theorem r_lst {ts : TA} (h : ts σ H fun xs H1 => xs.length ≤ sizeLine ∧ ∀ p, H1 p = none → Q (.ref p) (upd H1 p (.lst xs))) : tLst ts σ H Q := h
theorem r_tup {ts : TA} (h : ts σ H fun xs H1 => xs.length ≤ sizeLine ∧ ∀ p, H1 p = none → Q (.ref p) (upd H1 p (.tup xs))) : tTup ts σ H Q := h
theorem r_new {n : Nat} {F : Addr → Prop} (h1 : Nat.ble n 1000 = true) (h : ∀ p, H p = none → F p) : n ≤ sizeLine ∧ ∀ p, H p = none → F p := ⟨Nat.le_of_lt (small1000 (Nat.le_of_ble_eq_true h1)), h⟩
theorem r_ite {c : Prop} [Decidable c] {A B : Prop} (h1 : c → A) (h2 : ¬ c → B) : if decide c = true then A else B := by
  by_cases e : c
  · rw [decide_eq_true e]; exact iteT (h1 e)
  · rw [decide_eq_false e]; exact iteF (h2 e)
theorem r_iten {c : Prop} [Decidable c] {A B : Prop} (h1 : ¬ c → A) (h2 : c → B) : if (!decide c) = true then A else B := by
  by_cases e : c
  · rw [decide_eq_true e]; exact iteF (h2 e)
  · rw [decide_eq_false e]; exact iteT (h1 e)
theorem r_iteb {b : Bool} {A B : Prop} (h1 : b = true → A) (h2 : b = false → B) : if b = true then A else B := by
  cases b
  · exact iteF (h2 rfl)
  · exact iteT (h1 rfl)
theorem r_itebn {b : Bool} {A B : Prop} (h1 : b = false → A) (h2 : b = true → B) : if (!b) = true then A else B := by
  cases b
  · exact iteT (h1 rfl)
  · exact iteF (h2 rfl)
theorem iteNT {A B : Prop} (h : B) : if (!true) = true then A else B := iteF h
theorem iteNF {A B : Prop} (h : A) : if (!false) = true then A else B := iteT h
/-- int(n), abs(n), len(list) by words of their own -/
def rInt1 : List V → Hp → VK → Prop := fun xs H Q => ∃ i, xs = [.int i] ∧ Q (.int i) H
def rIntB : List V → Hp → VK → Prop := fun xs H Q => ∃ k, xs = [.bl k] ∧ Q (.int (if k then 1 else 0)) H
def rAbs1 : List V → Hp → VK → Prop := fun xs H Q => ∃ i, xs = [.int i] ∧ Q (.int (if i < 0 then -i else i)) H
def rLenL (K : PySem.W.Frag) : List V → Hp → VK → Prop := fun xs H Q => ∃ p ys, xs = [.ref p] ∧ (SqL K H p ys ∨ SqT K H p ys) ∧ Q (.int ys.length) H
theorem c_int1 {X : Cx} : CallR X (.type "int") rInt1 := fun pins s σ H xs us Q I r h => call_int1 pins s σ H xs us Q I r (Or.inl h)
theorem c_intB {X : Cx} : CallR X (.type "int") rIntB := fun pins s σ H xs us Q I r h => call_int1 pins s σ H xs us Q I r (Or.inr h)
theorem c_abs {X : Cx} : CallR X (.builtin "abs") rAbs1 := call_abs
theorem c_len {X : Cx} : CallR X (.builtin "len") (rLenL X.K) := call_len_seq
theorem r_int1 (h : Q (.int i) H) : rInt1 [.int i] H Q := ⟨i, rfl, h⟩
theorem r_intB {b : Bool} (h : Q (.int (if b then 1 else 0)) H) : rIntB [.bl b] H Q := ⟨b, rfl, h⟩
theorem r_abs1 (h : Q (.int (if i < 0 then -i else i)) H) : rAbs1 [.int i] H Q := ⟨i, rfl, h⟩
theorem r_lenL {p : Addr} {xs : List V} (h1 : SqL K H p xs) (h : Q (.int xs.length) H) : rLenL K [.ref p] H Q := ⟨p, xs, rfl, .inl h1, h⟩
theorem r_lenT {p : Addr} {xs : List V} (h1 : SqT K H p xs) (h : Q (.int xs.length) H) : rLenL K [.ref p] H Q := ⟨p, xs, rfl, .inr h1, h⟩
theorem r_bm {T : String} {r : V → List V → Hp → VK → Prop} {to : TE} {ts : TA} (h : to σ H fun x H1 => tyV K T x H1 ∧ ts σ H1 fun xs H2 => r x xs H2 Q) : tBM K T r to ts σ H Q := h
theorem r_tyL {p : Addr} {xs : List V} {A : Prop} (h1 : SqL K H p xs) (h : A) : tyV K "list" (.ref p) H ∧ A := ⟨Or.inl ⟨rfl, xs, h1⟩, h⟩
theorem r_app {p : Addr} {xs : List V} (h1 : H p = some (.lst xs)) (h2 : xs.length < sizeLine) (h : Q .non (upd H p (.lst (xs ++ [v])))) : rAppend (.ref p) [v] H Q := ⟨p, xs, v, rfl, rfl, h1, h2, h⟩
theorem r_isi {x c : V} {tv uv : Value} {b : Bool} (h1 : ClsV c uv) (h2 : TyX K H x tv) (h3 : PySem.W.kitOne K tv uv = some b) (h : Q (.bl b) H) : rIsi K [x, c] H Q := ⟨x, c, tv, uv, b, rfl, h1, h2, h3, h⟩
end
theorem bit_ok {b : Bool} : -(2 ^ 64) < (if b then (1 : Int) else 0) ∧ (if b then (1 : Int) else 0) < 2 ^ 64 := by cases b <;> decide
def kAt (ns : List Int) (i : Nat) : Int := ns.getD i 0
theorem ati_n {ns : List Int} {j : Nat} (h : j < ns.length) : atI (ns.map V.int) (j : Int) = some (.int (kAt ns j)) := atI_nat (by
  rw [List.getElem?_map, List.getElem?_eq_getElem h]
  show some (V.int ns[j]) = _
  rw [kAt, List.getD_eq_getElem?_getD, List.getElem?_eq_getElem h]
  rfl)
theorem ati_int {ns : List Int} {i : Int} (h0 : 0 ≤ i) (h1 : i < ns.length) : atI (ns.map V.int) i = some (.int (kAt ns i.toNat)) := by
  have e := ati_n (ns := ns) (j := i.toNat) (by omega)
  rw [Int.toNat_of_nonneg h0] at e
  exact e
theorem ati_last {ns : List Int} (h : 0 < ns.length) : atI (ns.map V.int) (-1) = some (.int (kAt ns (ns.length - 1))) := by
  unfold atI ixN
  rw [if_neg (by decide), if_pos (by rw [List.length_map]; omega), List.length_map]
  show (ns.map V.int)[((-1 : Int) + ns.length).toNat]? = _
  rw [show ((-1 : Int) + ns.length).toNat = ns.length - 1 by omega, List.getElem?_map, List.getElem?_eq_getElem (by omega)]
  rw [kAt, List.getD_eq_getElem?_getD, List.getElem?_eq_getElem (by omega)]
  rfl
theorem ixn_in {n : Nat} {i : Int} (h0 : 0 ≤ i) (h1 : i < n) : ixN n i = some i.toNat := by
  unfold ixN
  rw [if_pos h0, if_pos h1]
theorem same_new {H : Hp} {p : Addr} {o : HO} (h : H p = none) : Same H (upd H p o) := fun b x e => by
  rw [upd_ne (ne_of_none e h)]
  exact e
theorem nox_K {CX : CXT} {P : Program} {w : World} {K : PySem.W.Frag} {mg : Str → Option Value} {base : Heap} {N : List Str} {qual : Str} {sc : Scope} {f : Addr} {cd : Value} {A : Around} {outer : List Env} {s : Shared} {H : Hp} {E : XK} : (cxOf CX P w K mg base N qual sc f cd A outer s H E).nox.K = K := rfl
theorem cx_K {CX : CXT} {P : Program} {w : World} {K : PySem.W.Frag} {mg : Str → Option Value} {base : Heap} {N : List Str} {qual : Str} {sc : Scope} {f : Addr} {cd : Value} {A : Around} {outer : List Env} {s : Shared} {H : Hp} {E : XK} : (cxOf CX P w K mg base N qual sc f cd A outer s H E).K = K := rfl
section
variable {H : Hp} {Q : VK} {i j : Int} {K : PySem.W.Frag}
/-- % and // and * that hand on a letter -/
theorem r_mod (c : 0 < j) (h : ∀ k : Int, 0 ≤ k → k < j → k = i % j → Q (.int k) H) : rI (fun _ j => 0 < j) (fun i j => .int (i % j)) (.int i) (.int j) H Q :=
  ⟨i, j, rfl, rfl, c, h _ (Int.emod_nonneg _ (by omega)) (Int.emod_lt_of_pos _ c) rfl⟩
theorem r_fdiv (c : 0 < j) (c2 : j < 2 ^ 200) (h : ∀ k : Int, (0 ≤ i → 0 ≤ k) → k = i / j → Q (.int k) H) : rI CDivW (fun i j => .int (i / j)) (.int i) (.int j) H Q :=
  ⟨i, j, rfl, rfl, wide_div (b := 201) c (by omega) (by decide) (by decide), h _ (fun z => Int.ediv_nonneg z (by omega)) rfl⟩
theorem r_mul (c : CMul i j) (h : ∀ k : Int, k = i * j → Q (.int k) H) : rI CMul (fun i j => .int (i * j)) (.int i) (.int j) H Q := ⟨i, j, rfl, rfl, c, h _ rfl⟩
theorem r_lenI {p : Addr} {ns : List Int} (h1 : H p = some (.lst (ns.map V.int))) (h : Q (.int ns.length) H) : rLenL K [.ref p] H Q := ⟨p, _, rfl, .inl (.inl (.inl h1)), by rw [List.length_map]; exact h⟩
end
theorem bl_to {a b : Bool} {Q : VK} {H : Hp} (q : Q (.bl b) H) (e : a = b) : Q (.bl a) H := e ▸ q
/-! ### comprehensions by words of their own -/
def lcGo (J : It) (g : TG) (tt : TT) (te : TE) (vs : List Nat) (σ : L2.St) (Q : VK) (H1 : Hp) : Prop :=
  ∀ D, H1 D = none → ∃ W : Nat → Nat → Hp → Prop, (∃ m, W 0 m (upd H1 D (.lst []))) ∧
    ∀ i m H, W i m H → (J.stop i H ∧ Q (.ref D) H) ∨
      (J.go i H ∧ ∃ Nx : Hp → Prop, (∀ H', Nx H' → ∃ m', m' < m ∧ W (i + 1) m' H') ∧
        ∀ x H', J.yld i H x H' → g x (wipe σ vs) H' fun σ2 H2 => wipe σ2 vs = wipe σ vs ∧ tt σ2 H2 fun b H3 =>
          if b = true then te σ2 H3 fun y H4 => ∃ acc, H4 D = some (.lst acc) ∧ acc.length < sizeLine ∧ Nx (upd H4 D (.lst (acc ++ [y]))) else Nx H3)
section
variable {σ : L2.St} {H : Hp} {Q : VK} {te tl : TE} {K : PySem.W.Frag} {a : Addr} {xs : List V}
theorem r_lc {wi : TI} {g : TG} {tt : TT} {vs : List Nat} (h : wi σ H fun J H1 => lcGo J g tt te vs σ Q H1) : tLc wi g tt te vs σ H Q := h
theorem r_il {R : It → Hp → Prop} (h : tl σ H fun x H1 => ∃ a, x = .ref a ∧ (∃ xs, SqL K H1 a xs) ∧ R (Itl K a) H1) : iList K tl σ H R := h
theorem r_it {R : It → Hp → Prop} (h : tl σ H fun x H1 => ∃ a, x = .ref a ∧ (∃ xs, SqT K H1 a xs) ∧ R (Itt K a) H1) : iTup K tl σ H R := h
theorem r_itl {F : Addr → Prop} (hS : SqL K H a xs) (h : F a) : ∃ b, V.ref a = .ref b ∧ (∃ xs, SqL K H b xs) ∧ F b := ⟨a, rfl, ⟨xs, hS⟩, h⟩
theorem r_itt {F : Addr → Prop} (hS : SqT K H a xs) (h : F a) : ∃ b, V.ref a = .ref b ∧ (∃ xs, SqT K H b xs) ∧ F b := ⟨a, rfl, ⟨xs, hS⟩, h⟩
theorem r_rng1 {ta : TA} {R : It → Hp → Prop} (h : ta σ H fun vs H1 => ∃ j : Int, vs = [.int j] ∧ -(2 ^ 62) ≤ j ∧ j < 2 ^ 62 ∧ R (Itr 0 j.toNat) H1) : iRng1 ta σ H R := h
theorem r_rng2 {ta : TA} {R : It → Hp → Prop} (h : ta σ H fun vs H1 => ∃ i j : Int, vs = [.int i, .int j] ∧ (-(2 ^ 62) ≤ i ∧ i < 2 ^ 62 ∧ -(2 ^ 62) ≤ j ∧ j < 2 ^ 62) ∧ R (Itr i (j - i).toNat) H1) : iRng2 ta σ H R := h
theorem r_upto {j : Int} {F : Int → Prop} (h1 : -1000000 ≤ j) (h2 : j ≤ 1000000) (h : F j) : ∃ k : Int, [V.int j] = [.int k] ∧ -(2 ^ 62) ≤ k ∧ k < 2 ^ 62 ∧ F k := ⟨j, rfl, by omega, by omega, h⟩
theorem r_from {i j : Int} {F : Int → Int → Prop} (h0 : -1000000 ≤ i ∧ i ≤ 1000000) (h1 : -1000000 ≤ j ∧ j ≤ 1000000) (h : F i j) : ∃ i' j' : Int, [V.int i, V.int j] = [.int i', .int j'] ∧ (-(2 ^ 62) ≤ i' ∧ i' < 2 ^ 62 ∧ -(2 ^ 62) ≤ j' ∧ j' < 2 ^ 62) ∧ F i' j' := ⟨i, j, rfl, by omega, h⟩
theorem r_for {wi : TI} {g : TG} {tb : TS} {D : Ends} (h : wi σ H fun J H1 => ∃ W : Nat → Nat → L2.St → Hp → Prop, (∃ m, W 0 m σ H1) ∧ ∀ i m σ H, W i m σ H →
      (J.stop i H ∧ D.nx σ H) ∨ (J.go i H ∧ ∃ N : L2.St → Hp → Prop, (∀ σ' H', N σ' H' → ∃ m', m' < m ∧ W (i + 1) m' σ' H') ∧
        ∀ x H', J.yld i H x H' → g x σ H' fun σ2 H2 => tb { D with nx := N, ct := N, bk := D.nx } σ2 H2)) : tFor wi g tb D σ H := h
theorem wipe1 {n : Nat} {x : V} : wipe ((wipe σ [n]).set n (some x)) [n] = wipe σ [n] := by
  show ((σ.set n none).set n (some x)).set n none = σ.set n none
  rw [List.set_set, List.set_set]
/-- [e for x in xs], e a value by a function of x, the heap only grows aside -/
theorem lc_map {n : Nat} (f : V → V) (hS : SqL K H a xs) (hz : xs.length ≤ 1000) (he : ∀ (x : V) (H' : Hp) (QQ : VK), x ∈ xs → Same H H' → QQ (f x) H' → te ((wipe σ [n]).set n (some x)) H' QQ)
    (hq : ∀ D, H D = none → Q (.ref D) (upd H D (.lst (xs.map f)))) : lcGo (Itl K a) (gName n) tYes te [n] σ Q H := by
  intro D hD
  refine lc_list (K := K) (a := a) (xs := xs) (fun i H' => H' = upd H D (.lst ((xs.take i).map f))) rfl (fun i H' _ e => by subst e; exact (same_new hD).seq hS) ?_ ?_
  · rintro i x H' hx rfl
    refine ⟨wipe1, ?_⟩
    show te _ _ _
    refine he x _ _ (List.mem_of_getElem? hx) (same_new hD) ⟨(xs.take i).map f, upd_same, ?_, ?_⟩
    · rw [List.length_map, List.length_take]
      exact small1000 (by omega)
    · rw [upd_upd, List.take_add_one, hx, List.map_append]
      rfl
  · rintro H' rfl
    rw [List.take_length]
    exact hq D hD
end
section
variable {σ : L2.St} {H : Hp} {Q : VK} {te : TE} {K : PySem.W.Frag} {QO : Option Int → Hp → Prop}
theorem r_sl {r : V → Option Int → Option Int → Hp → VK → Prop} {tl th : TO} (h : te σ H fun x H1 => tl σ H1 fun l H2 => th σ H2 fun u H3 => r x l u H3 Q) : tSl r te tl th σ H Q := h
theorem r_np (h : QO none H) : tNoPart σ H QO := h
theorem r_pt (h : te σ H fun x H1 => ∃ i, x = .int i ∧ QO (some i) H1) : tPart te σ H QO := h
theorem r_pti {i : Int} {F : Int → Prop} (h : F i) : ∃ k, V.int i = .int k ∧ F k := ⟨i, rfl, h⟩
theorem r_slL {a : Addr} {xs : List V} {lo hi : Option Int} (hS : SqL K H a xs) (h : ∀ p, H p = none → Q (.ref p) (upd H p (.lst (cutV xs lo hi)))) : rSlL K (.ref a) lo hi H Q := ⟨a, xs, rfl, hS, h⟩
end
theorem cut_none {xs : List V} {n : Nat} (h : xs.length ≤ n) : cutV xs none (some (n : Int)) = xs := by
  unfold cutV
  rw [HT.sIx_none, show HT.sIx xs.length xs.length (some (n : Int)) = min n xs.length from HT.sIx_nat xs.length xs.length n]
  rw [List.drop_zero, Nat.sub_zero, Nat.min_eq_right h, List.take_length]
/-! ### the draws of a script -/
structure Drw (H : Hp) (d c r : Addr) : Prop where
  dc : d ≠ c
  dr : d ≠ r
  cr : c ≠ r
  ex : ∃ (ns rs : List Int) (t : Int), H d = some (.lst [.ref c, .ref r, .int t]) ∧ H c = some (.lst (ns.map V.int)) ∧ H r = some (.lst (rs.map V.int)) ∧ ns.length = rs.length ∧ 0 < ns.length ∧ 0 ≤ t ∧ ∀ x ∈ rs, 0 ≤ x
def Ext (d r : Addr) (H H' : Hp) : Prop := ∀ b o, H b = some o → b ≠ d → b ≠ r → H' b = some o
theorem Ext.refl {d r : Addr} {H : Hp} : Ext d r H H := fun _ _ e _ _ => e
theorem Ext.trans {d r : Addr} {H H1 H2 : Hp} (a : Ext d r H H1) (b : Ext d r H1 H2) : Ext d r H H2 := fun x o e n1 n2 => b x o (a x o e n1 n2) n1 n2
theorem Ext.of {d r : Addr} {H H' : Hp} (s : Same H H') : Ext d r H H' := fun b o e _ _ => s b o e
theorem Drw.same {H H' : Hp} {d c r : Addr} (D : Drw H d c r) (s : Same H H') : Drw H' d c r := by
  obtain ⟨dc, dr, cr, ns, rs, t, h1, h2, h3, h⟩ := D
  exact ⟨dc, dr, cr, ns, rs, t, s _ _ h1, s _ _ h2, s _ _ h3, h⟩
theorem Drw.new {H : Hp} {d c r p : Addr} {o : HO} (D : Drw H d c r) (h : H p = none) : Drw (upd H p o) d c r := D.same (same_new h)
theorem Drw.ned {H : Hp} {d c r p : Addr} (D : Drw H d c r) (h : H p = none) : p ≠ d := by
  obtain ⟨_, _, _, _, _, _, h1, _⟩ := D
  exact (ne_of_none h1 h).symm
theorem Drw.ner {H : Hp} {d c r p : Addr} (D : Drw H d c r) (h : H p = none) : p ≠ r := by
  obtain ⟨_, _, _, _, _, _, _, _, h1, _⟩ := D
  exact (ne_of_none h1 h).symm
theorem Drw.nec {H : Hp} {d c r p : Addr} (D : Drw H d c r) (h : H p = none) : p ≠ c := by
  obtain ⟨_, _, _, _, _, _, _, h1, _⟩ := D
  exact (ne_of_none h1 h).symm
theorem getD_left {xs : List Int} {y : Int} {i : Nat} (h : i < xs.length) : (xs ++ [y]).getD i 0 = xs.getD i 0 := by
  rw [List.getD_eq_getElem?_getD, List.getD_eq_getElem?_getD, List.getElem?_append_left h]
theorem getD_end {xs : List Int} {y : Int} : (xs ++ [y]).getD xs.length 0 = y := by
  rw [List.getD_eq_getElem?_getD, List.getElem?_append_right (Nat.le_refl _), Nat.sub_self]
  rfl
theorem Drw.back {H H' : Hp} {d c r p : Addr} (D : Drw H d c r) (e : Ext d r H H') (h : H' p = none) (D' : Drw H' d c r := by assumption) : H p = none := by
  cases q : H p with
  | none => rfl
  | some o =>
    have z := e p o q (D'.ned h) (D'.ner h)
    rw [h] at z
    cases z
theorem Drw.put {H : Hp} {d c r p : Addr} {o : HO} (D : Drw H d c r) (h1 : p ≠ d) (h2 : p ≠ r) (h3 : p ≠ c) : Drw (upd H p o) d c r := by
  obtain ⟨dc, dr, cr, ns, rs, t, g1, g2, g3, h⟩ := D
  exact ⟨dc, dr, cr, ns, rs, t, (upd_ne h1.symm).trans g1, (upd_ne h3.symm).trans g2, (upd_ne h2.symm).trans g3, h⟩
def spDraw : Sp := fun vs H Q _ => ∃ (d c r : Addr) (m : Int), vs = [.ref d, .int m] ∧ Drw H d c r ∧ 0 < m ∧ m < 2 ^ 200 ∧ ∀ (k : Int) (H' : Hp), 0 ≤ k → k < m → Drw H' d c r → Ext d r H H' → Q (.int k) H'
def spBegin (K : PySem.W.Frag) : Sp := fun vs H Q _ => ∃ (a : Addr) (ns : List Int), vs = [.ref a] ∧ SqL K H a (ns.map V.int) ∧ ns.length ≤ 63 ∧
  ∀ (d c r : Addr) (H' : Hp), Drw H' d c r → Same H H' → H d = none → H c = none → H r = none → Q (.ref d) H'
def restOf (v : V) : V := match v with
  | .int x => .int ((if x < 0 then -x else x) * (if decide ((10 : Int) ^ 18 ≤ (if x < 0 then -x else x)) then 1 else 0))
  | w => w
def restI (x : Int) : Int := (if x < 0 then -x else x) * (if decide ((10 : Int) ^ 18 ≤ (if x < 0 then -x else x)) then 1 else 0)
theorem rest_map (ns : List Int) : (ns.map V.int).map restOf = (ns.map restI).map V.int := by
  rw [List.map_map, List.map_map]
  rfl
theorem rest_nn (x : Int) : 0 ≤ restI x := by
  unfold restI
  refine Int.mul_nonneg ?_ ?_
  · split <;> omega
  · split <;> omega
/-! ### calls by keywords alone -/
section
variable {X : Cx} {CX : CXT} {k : Nat} {f : Addr} {fd : FuncData} {ps ks : List Str} {sp : Sp} {E : XK} {x : Str} {p pos : Pos} {kws : List Keyword} {tk : TA} {g : List Value → List Value → List Value} {gV : List V → List V → List V}
theorem pe_callN0 (F : FnOk X.prog X.w X.K X.mg X.base CX k f fd ps sp) (hr : Room k X.A) (hg : Gl X x) (hm : X.mg x = some (.ref f)) (hk : PySem.W.keepIn X.K (.ref f) = true) (hb : KBn X.K fd ps 0 ks g gV) (hx : Passes CX X E) (hkw : PK X kws tk)
    (hall : (backToKw pos (keywordEach kws X.env)).all (fun q => q.1.isSome) = true := by rfl) (hks : (backToKw pos (keywordEach kws X.env)).filterMap (fun q => q.1) = ks := by rfl) (hdb : (x == ("__debug__" : Str)) = false := by decide)
    (hpl : ((backTo pos (starEach [] X.env)).any (fun q => q.1) || (backToKw pos (keywordEach kws X.env)).any (fun q => q.1.isNone)) = false := by rfl) :
    PE X (.Call (.Name x p) [] kws pos) (tCallN 0 ks.length sp gV E tNil tk) := by
  refine ⟨fun pins s σ H Q I h => wpAny_Call_Name_kw (ld_glob I hg hm ?_ hdb)⟩
  refine PySem.W.callWith_KW0 (h₀ := X.base) I.ok.mod.kin hk hall (thn (hkw.run pos pins s σ H _ I h) fun ws s2 hh => ?_) hpl
  obtain ⟨zs, H2, I2, rz, l1, l2, q2⟩ := hh
  refine ⟨I2.kIn, ?_⟩
  rw [hks]
  exact run_fnN (us := []) (vs := []) F hr hb hx I2 .nil rz rfl l2 q2
theorem r_callN {n m : Nat} {ts : TA} {σ : L2.St} {H : Hp} {Q : VK} (h : ts σ H fun vs H1 => tk σ H1 fun zs H2 => vs.length = n ∧ zs.length = m ∧ sp (gV vs zs) H2 Q E) : tCallN n m sp gV E ts tk σ H Q := h
end
theorem kb_mk {K : PySem.W.Frag} {x qual : Str} {st : Stmt} {f : Addr} {fd : FuncData} {ps ks : List Str} {g : List Value → List Value → List Value} {gV : List V → List V → List V} (F : Fun K x qual st f fd)
    (h : ∀ (kV doc pm : Value) (an : Option Addr) (cdv ct : Value) (ws : List Value), ws.length = ks.length → bindArgs (PySem.W.fnOf x qual (defArgs st) (defBody st) (defScope st) .none kV doc pm an cdv ct) ⟨[], ks.zip ws⟩ = pure (ps.zip (g [] ws)))
    (hrel : ∀ {vs : List V} {us : List Value} {zs : List V} {ws : List Value}, Vals vs us → Vals zs ws → Vals (gV vs zs) (g us ws)) : KBn K fd ps 0 ks g gV := by
  obtain ⟨oc, od, kV, doc, pm, an, cdv, ct, osl, rfl, lk, hcd⟩ := F.ex
  refine ⟨fun s us ws _ l1 l2 => ?_, hrel⟩
  have e : us = [] := List.length_eq_zero_iff.mp l1
  subst e
  exact .of_eq (h kV doc pm an cdv ct ws l2)
section
variable {σ : L2.St} {H : Hp} {D : Ends} {ta : TA}
theorem r_par {i j : Nat} (h : ta σ H fun vs H1 => ∃ v w, vs = [v, w] ∧ D.nx ((σ.set i (some v)).set j (some w)) H1) : tPar i j ta D σ H := h
theorem r_par3 {i j l : Nat} (h : ta σ H fun vs H1 => ∃ u v w, vs = [u, v, w] ∧ D.nx (((σ.set i (some u)).set j (some v)).set l (some w)) H1) : tPar3 i j l ta D σ H := h
theorem r_two {a b : V} {F : V → V → Prop} (h : F a b) : ∃ v w, [a, b] = [v, w] ∧ F v w := ⟨a, b, rfl, h⟩
theorem r_three {a b c : V} {F : V → V → V → Prop} (h : F a b c) : ∃ u v w, [a, b, c] = [u, v, w] ∧ F u v w := ⟨a, b, c, rfl, h⟩
end
/-- [e for x in range(..)], e draws -/
theorem lc_draws {σ : L2.St} {H : Hp} {Q : VK} {te : TE} {n m : Nat} {lo : Int} {d c r : Addr} {P : Int → Prop} (hm : m ≤ 1000) (D0 : Drw H d c r)
    (he : ∀ (i : Nat) (H' : Hp) (QQ : VK), i < m → Drw H' d c r → Ext d r H H' → (∀ (k : Int) (H'' : Hp), P k → Drw H'' d c r → Ext d r H' H'' → QQ (.int k) H'') → te ((wipe σ [n]).set n (some (.int (lo + i)))) H' QQ)
    (hq : ∀ (l : Addr) (ss : List Int) (H' : Hp), ss.length = m → (∀ x ∈ ss, P x) → H l = none → H' l = some (.lst (ss.map V.int)) → Drw H' d c r → Ext d r H H' → Q (.ref l) H') : lcGo (Itr lo m) (gName n) tYes te [n] σ Q H := by
  intro l nl
  have ld := D0.ned nl
  have lr := D0.ner nl
  have lc := D0.nec nl
  refine lc_range (fun i H' => ∃ ss : List Int, ss.length = i ∧ (∀ x ∈ ss, P x) ∧ H' l = some (.lst (ss.map V.int)) ∧ Drw H' d c r ∧ Ext d r H H') ⟨[], rfl, fun x hx => (nomatch hx), upd_same, D0.new nl, Ext.of (same_new nl)⟩ ?_ ?_
  · rintro i H' hi ⟨ss, hl, hp, hs, D1, E1⟩
    refine ⟨wipe1, ?_⟩
    show te _ _ _
    refine he i H' _ hi D1 E1 fun k H'' hk D2 E2 => ⟨ss.map V.int, E2 _ _ hs ld lr, ?_, ?_⟩
    · rw [List.length_map]
      exact small1000 (by omega)
    · refine ⟨ss ++ [k], by rw [List.length_append, hl]; rfl, fun x hx => ?_, by rw [upd_same, List.map_append]; rfl, D2.put ld lr lc, fun b o e n1 n2 => ?_⟩
      · rcases List.mem_append.mp hx with z | z
        · exact hp x z
        · rw [List.mem_singleton.mp z]; exact hk
      · rw [upd_ne (ne_of_none e nl)]
        exact E2 b o (E1 b o e n1 n2) n1 n2
  · rintro H' ⟨ss, hl, hp, hs, D1, E1⟩
    exact hq l ss H' hl hp nl hs D1 E1
section
variable {σ : L2.St} {H : Hp} {D : Ends} {te : TE} {Q : VK}
theorem r_aug {i : Nat} {ti : TIp} {x : V} (e : σ[i]? = some (some x)) (h : te σ H fun y H1 => ti x y H1 fun z H2 => D.nx (σ.set i (some z)) H2) : tAug i te ti D σ H := ⟨x, e, h⟩
theorem r_ext2 {l b : Addr} {xs zs : List V} (h1 : H l = some (.lst xs)) (h2 : H b = some (.lst zs)) (hz : xs.length + zs.length ≤ 1000) (h : Q (.ref l) (upd H l (.lst (xs ++ zs)))) : rExt2 (.ref l) (.ref b) H Q := ⟨l, b, xs, zs, rfl, rfl, h1, h2, Nat.le_of_lt (small1000 hz), h⟩
theorem r_ipI {f : Int → Int → Int} {i j : Int} (h : Q (.int (f i j)) H) : ipI f (.int i) (.int j) H Q := ⟨i, j, rfl, rfl, h⟩
end
/-! ### operators of own classes: by the class's own def -/
section
open PySem.W
variable {prog : Program} {w : World} {A : Around} {E : Value → Shared → Prop} {s : Shared} {K : PySem.W.Frag} {x C f : Addr} {ox : Obj} {od : Option Obj} {b tb : Value}
theorem check_obj {M : Model} {rest : List Value} {Q : Unit → Shared → Prop} (X : K.In s.heap) (I : InstAt s.heap x ox C od) (hob : subIn K (.ref C) (.type "object") = some true) (ha : argsOk "object.__ne__" ⟨.ref x :: rest, []⟩) (hq : Q () s) :
    wpAny M A (checkBuiltinCall "object.__ne__" ⟨.ref x :: rest, []⟩) Q E s := by
  simp only [checkBuiltinCall, F.cmpKind_ne, F.cmpSplit_ne]
  refine wpAny_bind ?_
  unfold isInstance
  refine wpAny_bind (I.type.here ((looks_subIn X hob).here ?_))
  simp only [Bool.not_true, Bool.false_eq_true, if_false]
  cases hsig : Manifest.signature? "object.__ne__" with
  | none => exact wpAny_pure hq
  | some sig =>
    simp only [argsOk, hsig] at ha
    show wpAny M A (Bind.checkArgs "object.__ne__" sig ⟨.ref x :: rest, []⟩) Q E _
    rw [show Bind.checkArgs "object.__ne__" sig ⟨.ref x :: rest, []⟩ = pure () from ha]
    exact wpAny_pure hq
theorem bound_ne {M : Model} {args : List Value} {Q : Option Value → Shared → Prop} (X : K.In s.heap) (I : InstAt s.heap x ox C od) (hs : findIn K (.ref C) "__ne__" = some (some (.builtin "object.__ne__")))
    (h : wpAny M A (call (.builtin "object.__ne__") (.ref x :: args)) (fun v => Q (some v)) E s) : wpAny M A (callSpecialIfBound? (.ref x) "__ne__" args) Q E s := by
  simp only [callSpecialIfBound?, bindSpecialIfBound?]
  have hb : bindSpecial (.builtin "object.__ne__") (.ref x) = pure (.builtin "object.__ne__", [.ref x]) := F.cmp_object.ne.bind _
  have fin : wpAny M A (call (.builtin "object.__ne__") ([.ref x] ++ args) >>= fun v => pure (some v)) Q E s := wpAny_bind (wpAny_mono h (fun v s' h' => wpAny_pure h') fun _ _ h' => h')
  refine wpAny_holding (wpAny_bind (wpAny_bind (wpAny_bind (I.type.here ((looks_findIn X hs).here ?_)))))
  refine wpAny_bind (wpAny_askSetting (wpAny_ite ?_))
  rw [hb]
  split
  · exact wpAny_bind (wpAny_pure (wpAny_pure (by exact fin)))
  · exact wpAny_tryCatch (wpAny_bind (wpAny_pure (wpAny_pure (by exact fin))))
theorem ne_own {Q : Value → Shared → Prop} (hu : A.units + 1 < cLine) (X : K.In s.heap) (I : InstAt s.heap x ox C od) (hb : Looks (model prog w) s.heap (typeOf b) tb) (hn : notFirst K C tb = true)
    (hne : findIn K (.ref C) "__ne__" = some (some (.builtin "object.__ne__"))) (hob : subIn K (.ref C) (.type "object") = some true) (hs : findIn K (.ref C) "__eq__" = some (some (.ref f))) (hf : isFn K (.ref f) = true)
    (h : wpAny (model prog w) A.in1 (call (.ref f) [.ref x, b]) (fun v s' => ∃ k, v = .bool k ∧ Q (.bool (!k)) s') E s) : wpAny (model prog w) A (richCompare .NotEq (.ref x) b) Q E s := by
  have one : wpAny (model prog w) A (tryCompare (.ref x) (cmpInfo .NotEq).2.1 b) (fun r s' => ∃ v, r = some v ∧ Q v s') E s := by
    unfold tryCompare
    refine wpAny_bind (bound_ne X I hne (wpAny_call (codeAny_call_builtin F.cmp_object.ne.plain F.cmpEntry_ne (check_obj X I hob (F.cmpArgs_ne _ _) ?_))))
    unfold Builtin.«object.__ne__»
    repeat (first
      | with_reducible refine wpAny_cRoomFor hu ?_
      | (refine wpAny_bind (m := callSpecialIfBound? (.ref x) (Str.ofString "__eq__") [b])
          (ifBound_K X I hs hf (wpAny_mono h (fun r s' hr => by
            obtain ⟨k, rfl, hq⟩ := hr
            repeat (first | exact wpAny_pure ⟨_, rfl, hq⟩ | (refine wpAny_bind (m := truthy (.bool _)) (wpAny_truthy_bool ?_)) | wp_step)) fun _ _ e => e)))
      | wp_step)
  unfold richCompare
  simp only [oneThing_ref]
  refine wpAny_holding (wpAny_bind (wpAny_cRoomFor (Nat.lt_of_succ_lt hu) ?_))
  refine wpAny_bind (I.type.here (wpAny_bind (hb.here ?_)))
  split
  · rename_i q
    have e : subIn K tb (.ref C) = some false := by
      rcases Bool.or_eq_true_iff.mp hn with e | e
      · rw [beq_iff_eq.mp e] at q; simp at q
      · exact beq_iff_eq.mp e
    refine wpAny_bind ((looks_subIn X e).here ?_)
    simp only [Bool.false_eq_true, if_false]
    refine wpAny_bind (wpAny_mono one (fun r s' z => ?_) fun _ _ e => e)
    obtain ⟨v, rfl, hq⟩ := z
    exact wpAny_pure hq
  · refine wpAny_bind (wpAny_pure ?_)
    simp only [Bool.false_eq_true, if_false]
    refine wpAny_bind (wpAny_mono one (fun r s' z => ?_) fun _ _ e => e)
    obtain ⟨v, rfl, hq⟩ := z
    exact wpAny_pure hq
theorem neg_own {M : Model} {Q : Value → Shared → Prop} (X : K.In s.heap) (I : InstAt s.heap x ox C od) (hs : findIn K (.ref C) "__neg__" = some (some (.ref f))) (hf : isFn K (.ref f) = true)
    (h : wpAny M A (call (.ref f) [.ref x]) Q E s) : wpAny M A (unaryOp .USub (.ref x)) Q E s := by
  unfold unaryOp
  refine wpAny_holding ?_
  dsimp only
  rw [if_neg (by decide)]
  exact wpAny_bind (special_fn X I hs (beq_iff_eq.mp hf) (wpAny_mono h (fun _ _ z => wpAny_pure z) fun _ _ z => z))
end
section
variable {X : Cx} {CX : CXT} {k : Nat} {g C : Addr} {fd : FuncData} {ps : List Str} {sp : Sp} {E : XK}
theorem cmpb {P : Value → Shared → Prop} {z : V} {v : Value} {s' : Shared} (r : RelV z v) (h : P v s') : PySem.W.CmpBack P v s' := by
  cases z with
  | non => cases (show v = Value.none from r); exact h
  | bl b => cases (show v = Value.bool b from r); exact h
  | int i => obtain ⟨t, rfl⟩ := (show ∃ t, v = Value.int i t from r); exact h
  | str x => obtain ⟨t, rfl⟩ := (show ∃ t, v = Value.str x t from r); exact h
  | byt b => obtain ⟨t, rfl⟩ := (show ∃ t, v = Value.bytes b t from r); exact h
  | flt b => obtain ⟨t, rfl⟩ := (show ∃ t, v = Value.float b t from r); exact h
  | ref a => cases (show v = Value.ref a from r); exact h
  | ty n => cases (show v = Value.type n from r); exact h
/-- what an own operator of the class at C asks: the left one is an instance, the right one's type is known and not below C -/
def rCmpO (K : PySem.W.Frag) (C : Addr) (sp : Sp) (E : XK) : R2 := fun x y H Q => ∃ a dx fs t, x = .ref a ∧ H a = some (.ins C dx fs) ∧ TyX K H y t ∧ PySem.W.notFirst K C t = true ∧ sp [x, y] H Q E
def rNeO (K : PySem.W.Frag) (C : Addr) (sp : Sp) (E : XK) : R2 := fun x y H Q => ∃ a dx fs t, x = .ref a ∧ H a = some (.ins C dx fs) ∧ TyX K H y t ∧ PySem.W.notFirst K C t = true ∧ sp [x, y] H (fun v H' => ∃ b, v = .bl b ∧ Q (.bl (!b)) H') E
def rAddO (C : Addr) (sp : Sp) (E : XK) : R2 := fun x y H Q => ∃ a dx fs b dy gs, x = .ref a ∧ y = .ref b ∧ H a = some (.ins C dx fs) ∧ H b = some (.ins C dy gs) ∧ sp [x, y] H Q E
def rNegO (C : Addr) (sp : Sp) (E : XK) : V → Hp → VK → Prop := fun x H Q => ∃ a dx fs, x = .ref a ∧ H a = some (.ins C dx fs) ∧ sp [x] H Q E
theorem inst_at {pins : List (Addr × Obj)} {σ : L2.St} {H : Hp} {s : Shared} {a dx : Addr} {fs : List (Str × V)} (I : Inv X pins σ H s) (h : H a = some (.ins C dx fs)) : ∃ ox od, PySem.W.InstAt s.heap a ox C od := by
  obtain ⟨mA, O, _⟩ := ins_get I.hok h
  obtain ⟨od, J, _⟩ := O.look
  exact ⟨_, _, J⟩
theorem op_cmpO {op : CmpOp} (hop : ∀ a b, compareOp op a b = richCompare op a b) (hs : PySem.W.findIn X.K (.ref C) (cmpInfo op).2.1 = some (some (.ref g))) (hf : PySem.W.isFn X.K (.ref g) = true) (F : FnOk X.prog X.w X.K X.mg X.base CX k g fd ps sp) (hr : Room k X.A) (hb : Binds X.K fd ps []) (hx : Passes CX X E) :
    OpR X (compareOp op) (rCmpO X.K C sp E) := by
  intro pins s σ H x y v u Q I rx ry h
  obtain ⟨a, dx, fs, t, rfl, ha, ty, hn, q⟩ := h
  cases (show v = Value.ref a from rx)
  obtain ⟨ox, od, J⟩ := inst_at I ha
  obtain ⟨P, Z, p, _⟩ := kit_of I ry ty
  obtain ⟨m, hF⟩ := I.fr
  rw [hop]
  refine PySem.W.cmp_K (op := op) (tb := t) hr.units0 hF I.ok.mod.kin J (Z.ty _ _ I.kIn p) hn hs hf ?_
  refine wpAny_mono (run_fn (ds := []) (dvs := []) (vs := [.ref a, y]) F hr hb .nil hx I (.cons rfl (.cons ry .nil)) (by rw [List.append_nil]; exact q)) (fun w s' z => ?_) fun _ _ e => e
  obtain ⟨z', H', I', rz, qz⟩ := z
  exact cmpb rz ⟨z', H', I', rz, qz⟩
theorem op_eqO (hs : PySem.W.findIn X.K (.ref C) "__eq__" = some (some (.ref g))) (hf : PySem.W.isFn X.K (.ref g) = true) (F : FnOk X.prog X.w X.K X.mg X.base CX k g fd ps sp) (hr : Room k X.A) (hb : Binds X.K fd ps []) (hx : Passes CX X E) :
    OpR X (compareOp .Eq) (rCmpO X.K C sp E) := op_cmpO (fun _ _ => rfl) hs hf F hr hb hx
theorem op_neO (hs : PySem.W.findIn X.K (.ref C) "__eq__" = some (some (.ref g))) (hf : PySem.W.isFn X.K (.ref g) = true) (hne : PySem.W.findIn X.K (.ref C) "__ne__" = some (some (.builtin "object.__ne__"))) (hob : PySem.W.subIn X.K (.ref C) (.type "object") = some true)
    (F : FnOk X.prog X.w X.K X.mg X.base CX k g fd ps sp) (hr : Room (k + 1) X.A) (hb : Binds X.K fd ps []) (hx : Passes CX X E) : OpR X (compareOp .NotEq) (rNeO X.K C sp E) := by
  intro pins s σ H x y v u Q I rx ry h
  obtain ⟨a, dx, fs, t, rfl, ha, ty, hn, q⟩ := h
  cases (show v = Value.ref a from rx)
  obtain ⟨ox, od, J⟩ := inst_at I ha
  obtain ⟨P, Z, p, _⟩ := kit_of I ry ty
  have hu := hr.units
  show wpAny _ _ (richCompare .NotEq _ _) _ _ _
  refine ne_own (by omega) I.kIn J (Z.ty _ _ I.kIn p) hn hne hob hs hf ?_
  have r2 : Vals [V.ref a, y] [Value.ref a, u] := .cons rfl (.cons ry .nil)
  have hl : ([Value.ref a, u] ++ []).length = ps.length := by
    rw [List.append_nil, ← r2.length]
    exact F.len _ _ _ _ q
  refine wpAny_call (codeAny_mono (F.run X.A.in1 X.stack s H ⟨[.ref a, u], []⟩ [.ref a, u] _ _ E hr.in1 I.env0.in1 (by have z := hb s [.ref a, u] I.kIn hl; rw [List.append_nil] at z; exact z) r2 q) fun r s' hq => ?_)
  cases r with
  | error e => exact hx pins σ H s e s' I hq
  | ok fl =>
    cases fl with
    | ret z =>
      obtain ⟨v', H', I', rv, b, rfl, qz⟩ := I.after hq
      cases rv
      exact ⟨b, rfl, .bl (!b), H', I', rfl, qz⟩
    | next => exact False.elim hq
    | brk => exact False.elim hq
    | cont => exact False.elim hq
theorem op_binO {op : Operator} (hc : PySem.W.selfFirst X.K C = true) (hs : PySem.W.findIn X.K (.ref C) (PySem.dunder op.info.2) = some (some (.ref g))) (hf : PySem.W.isFn X.K (.ref g) = true) (F : FnOk X.prog X.w X.K X.mg X.base CX k g fd ps sp) (hr : Room k X.A) (hb : Binds X.K fd ps []) (hx : Passes CX X E) :
    OpR X (binaryOp op) (rAddO C sp E) := by
  intro pins s σ H x y v u Q I rx ry h
  obtain ⟨a, dx, fs, b, dy, gs, rfl, rfl, ha, hb', q⟩ := h
  cases (show v = Value.ref a from rx)
  cases (show u = Value.ref b from ry)
  obtain ⟨ox, od, J⟩ := inst_at I ha
  obtain ⟨oy, oe, J'⟩ := inst_at I hb'
  obtain ⟨m, hF⟩ := I.fr
  refine PySem.W.binop_K (op := op) hF I.ok.mod.kin J J'.type hc hs hf ?_
  refine wpAny_mono (run_fn (ds := []) (dvs := []) (vs := [.ref a, .ref b]) F hr hb .nil hx I (.cons rfl (.cons rfl .nil)) (by rw [List.append_nil]; exact q)) (fun w s' z => ?_) fun _ _ e => e
  obtain ⟨z', H', I', rz, qz⟩ := z
  exact cmpb rz ⟨z', H', I', rz, qz⟩
theorem un_negO (hs : PySem.W.findIn X.K (.ref C) "__neg__" = some (some (.ref g))) (hf : PySem.W.isFn X.K (.ref g) = true) (F : FnOk X.prog X.w X.K X.mg X.base CX k g fd ps sp) (hr : Room k X.A) (hb : Binds X.K fd ps []) (hx : Passes CX X E) :
    UnR X (unaryOp .USub) (rNegO C sp E) := by
  intro pins s σ H x v Q I rx h
  obtain ⟨a, dx, fs, rfl, ha, q⟩ := h
  cases (show v = Value.ref a from rx)
  obtain ⟨ox, od, J⟩ := inst_at I ha
  exact neg_own I.kIn J hs hf (run_fn (ds := []) (dvs := []) (vs := [.ref a]) F hr hb .nil hx I (.cons rfl .nil) (by rw [List.append_nil]; exact q))
/-- v in x, x of an own class with its own __contains__, which hands back a truth -/
def rInO (C : Addr) (sp : Sp) (E : XK) : R2 := fun x y H Q => ∃ a dx fs, y = .ref a ∧ H a = some (.ins C dx fs) ∧ sp [y, x] H (fun v H' => ∃ b, v = .bl b ∧ Q (.bl b) H') E
theorem op_inO (hs : PySem.W.findIn X.K (.ref C) "__contains__" = some (some (.ref g))) (hf : PySem.W.isFn X.K (.ref g) = true) (F : FnOk X.prog X.w X.K X.mg X.base CX k g fd ps sp) (hr : Room k X.A) (hb : Binds X.K fd ps []) (hx : Passes CX X E) :
    OpR X (compareOp .In) (rInO C sp E) := by
  intro pins s σ H x y v u Q I rx ry h
  obtain ⟨a, dx, fs, rfl, ha, q⟩ := h
  cases (show u = Value.ref a from ry)
  obtain ⟨ox, od, J⟩ := inst_at I ha
  obtain ⟨m, hF⟩ := I.fr
  refine PySem.W.in_K hF I.ok.mod.kin J hs hf (wpAny_mono (run_fn (ds := []) (dvs := []) (vs := [.ref a, x]) F hr hb .nil hx I (.cons rfl (.cons rx .nil)) (by rw [List.append_nil]; exact q)) (fun w s' z => ?_) fun _ _ e => e)
  obtain ⟨z', H', I', rz, b, rfl, qz⟩ := z
  cases rz
  exact wpAny_truthy_bool ⟨.bl b, H', I', rfl, qz⟩
end
/-! ### fields, methods, new instances -/
section
variable {σ : L2.St} {H : Hp} {Q : VK} {K : PySem.W.Frag} {te ta tv : TE} {a C dx : Addr} {fs : List (Str × V)} {f : Str} {v : V} {D : Ends}
theorem r_fld (h : ta σ H fun x H1 => ∃ a C dx fs v, x = .ref a ∧ H1 a = some (.ins C dx fs) ∧ Cls K C ∧ NoAttr K C f ∧ fs.lookup f = some v ∧ Q v H1) : tFld K ta f σ H Q := h
theorem r_get {F : V → Prop} (e : H a = some (.ins C dx fs)) (c : Cls K C) (n : NoAttr K C f) (l : fs.lookup f = some v) (h : F v) : ∃ a' C dx fs v, V.ref a = .ref a' ∧ H a' = some (.ins C dx fs) ∧ Cls K C ∧ NoAttr K C f ∧ fs.lookup f = some v ∧ F v := ⟨a, C, dx, fs, v, rfl, e, c, n, l, h⟩
theorem r_sfld (h : tv σ H fun y H1 => ta σ H1 fun x H2 => ∃ a C dx fs, x = .ref a ∧ H2 a = some (.ins C dx fs) ∧ Cls K C ∧ NoAttr K C f ∧ fs.length < 1000 ∧ D.nx σ (upd H2 a (.ins C dx (putF f y fs)))) : sFld K ta tv f D σ H := h
theorem r_put {F : Hp → Prop} {y : V} (e : H a = some (.ins C dx fs)) (c : Cls K C) (n : NoAttr K C f) (l : fs.length < 1000) (h : F (upd H a (.ins C dx (putF f y fs)))) : ∃ a' C dx fs, V.ref a = .ref a' ∧ H a' = some (.ins C dx fs) ∧ Cls K C ∧ NoAttr K C f ∧ fs.length < 1000 ∧ F (upd H a' (.ins C dx (putF f y fs))) := ⟨a, C, dx, fs, rfl, e, c, n, l, h⟩
theorem r_meth {m : Str} {sp : Sp} {dvs : List V} {E : XK} {ts : TA} (h : ta σ H fun x H1 => ∃ a dx fs, x = .ref a ∧ H1 a = some (.ins C dx fs) ∧ fs.lookup m = none ∧ ts σ H1 fun vs H2 => sp (x :: (vs ++ dvs)) H2 Q E) : tMeth C m sp dvs E ta ts σ H Q := h
theorem r_who {m : Str} {A : Prop} (e : H a = some (.ins C dx fs)) (l : fs.lookup m = none) (h : A) : ∃ a' dx fs, V.ref a = .ref a' ∧ H a' = some (.ins C dx fs) ∧ fs.lookup m = none ∧ A := ⟨a, dx, fs, rfl, e, l, h⟩
theorem r_make {sp : Sp} {dvs : List V} {E : XK} {ts : TA} (h : ts σ H fun vs H1 => ∀ x dx, H1 x = none → H1 dx = none → dx ≠ x → sp (.ref x :: (vs ++ dvs)) (upd (upd H1 dx (.own x)) x (.ins C dx [])) (fun v H2 => v = .non ∧ Q (.ref x) H2) E) : tMake C sp dvs E ts σ H Q := h
end
theorem same_make {H H' : Hp} {x dx C : Addr} (nx : H x = none) (nd : H dx = none) (s : ∀ b o, (upd (upd H dx (.own x)) x (.ins C dx [])) b = some o → b ≠ x → H' b = some o) : Same H H' := fun b o e =>
  s b o (by rw [upd_ne (ne_of_none e nx), upd_ne (ne_of_none e nd)]; exact e) (ne_of_none e nx)
/-! ### defs that may ask repr of lists and tuples: called where no repr is under way -/
structure FnG (P : Program) (w : World) (K : PySem.W.Frag) (mg : Str → Option Value) (base : Heap) (CX : CXT) (k : Nat) (f : Addr) (fd : FuncData) (ps : List Str) (sp : Sp) : Prop where
  len : ∀ vs H Q E, sp vs H Q E → vs.length = ps.length
  run : ∀ (A : Around) (outer : List Env) (s : Shared) (H : Hp) (args : Args) (us : List Value) (vs : List V) (Q : VK) (E : XK), A.guards = some [] → Room k A → Env0 P w K mg base A outer s H →
    BindsTo s fd args (ps.zip us) → Vals vs us → sp vs H Q E → codeAny (model P w) A (.call (.ref f) args) (CR CX outer P w H s Q E) s
section
variable {P : Program} {w : World} {K : PySem.W.Frag} {mg : Str → Option Value} {base : Heap}
theorem okG {x qual : Str} {st : Stmt} {f : Addr} {fd : FuncData} {N ps : List Str} {k : Nat} {sp : Sp} (F : Fun K x qual st f fd) (S : FnScope N ps (defScope st)) (len : ∀ vs H Q E, sp vs H Q E → vs.length = ps.length)
    (hbody : ∀ (cdv : Value) (A : Around) (outer : List Env) (s : Shared) (H : Hp) (vs : List V) (Q : VK) (E : XK), A.guards = some [] → Room k (A.deeper (envOfC qual (defScope st) s.heap.objs.size f cdv)) → sp vs H Q E →
      ∃ t, PSs (cxOf CX0 P w K mg base N qual (defScope st) f cdv A outer s H E).nox (defBody st) t ∧ t { nx := fun _ H' => Q .non H', rt := Q } (start N vs) H) : FnG P w K mg base CX0 (k + 1) f fd ps sp := by
  obtain ⟨oc, od, kV, doc, pm, an, cdv, ct, osl, rfl, lk, hcd⟩ := F.ex
  refine ⟨len, fun A outer s H args us vs Q E hG hr e0 hb r hsp => ?_⟩
  -- the body's reading is kept for this around alone: elsewhere the promise is not asked
  have inn : K.In s.heap := e0.mod.kin.keeps fun b o e => (e0.bs b o e).1
  have nol : s.heap.NoLimit := e0.mod.nolimit.keeps fun b o e => (e0.bs b o e).1
  have par : ∀ y ∈ ps.zip us, (defScope st).names.lookup y.1 = some .local ∨ ((defScope st).names.lookup y.1 = some .cell ∧ ((cellsFrom (s.heap.objs.size + 1) (defScope st).names []).lookup y.1).isSome = true) := by
    intro y hy
    have hm : y.1 ∈ ps := (List.of_mem_zip (show (y.1, y.2) ∈ ps.zip us from hy)).1
    exact (S.par y.1 hm).imp (fun z => z) fun z => ⟨z, PySem.W.cellsFrom_some _ _ _ (.inl z)⟩
  obtain ⟨t, ht, hq⟩ := hbody cdv A outer s H vs Q E hG (hr.deeper _) hsp
  refine codeAny_call_function hr.depth (inn _ _ lk) rfl S.co S.gen rfl (PySem.W.codeRec_of inn hcd) (hb _ _ _ _ ?_)
  refine wpAny_newFunctionEnv_cells S.kind par fun env he s1 x => ?_
  subst he
  refine ⟨nol.keeps x.toInCall.keep, codeAny_func ?_⟩
  have I := inv_start (CX := CX0) (E := E) S hr.hd e0 (len _ _ _ _ hsp) r x
  refine wpAny_mono (ht.nox.run [] s1 (start N vs) H _ I hq) (fun fl s' hs => ?_) fun e s' hs => hs
  cases fl with
  | ret u =>
    obtain ⟨v, σ', H', J, rv, q⟩ := hs
    exact ⟨v, H', J.os, J.bare, J.base, J.hok, rv, q⟩
  | next =>
    obtain ⟨σ', H', J, q⟩ := hs
    exact ⟨V.non, H', J.os, J.bare, J.base, J.hok, rfl, q⟩
  | brk => exact False.elim hs.choose_spec.choose_spec.2
  | cont => exact False.elim hs.choose_spec.choose_spec.2
theorem deeper_guards {A : Around} {env : Env} (h : A.guards = some []) : (A.deeper env).guards = some [] := h
end
section
variable {X : Cx} {CX : CXT} {k : Nat} {f : Addr} {fd : FuncData} {ps : List Str} {sp : Sp} {dvs : List V} {ds : List Value} {E : XK} {x : Str} {p pos : Pos} {e : Expr} {es : List Expr} {t : TA}
theorem pe_callG (hG : X.A.guards = some []) (F : FnG X.prog X.w X.K X.mg X.base CX k f fd ps sp) (hr : Room k X.A) (hg : Gl X x) (hm : X.mg x = some (.ref f)) (hk : PySem.W.keepIn X.K (.ref f) = true) (hb : Binds X.K fd ps ds) (hd : Vals dvs ds) (hx : Passes CX X E)
    (ha : PA X (e :: es) t) (hdb : (x == ("__debug__" : Str)) = false := by decide) (he : starEach (e :: es) X.env = (false, eval e X.env) :: starEach es X.env := by rfl) (hpl : (backTo pos (starEach es X.env)).any (fun q => q.1) = false := by rfl) :
    PE X (.Call (.Name x p) (e :: es) [] pos) (tCall sp dvs E t) := by
  refine ⟨fun pins s σ H Q I h => wpAny_Call_Name_kw (ld_glob I hg hm ?_ hdb)⟩
  refine PySem.W.callWith_K (h₀ := X.base) I.ok.mod.kin hk (thn (ha.run pos pins s σ H _ I h) fun us s1 hh => ?_) he hpl
  obtain ⟨vs, H1, I1, r, q⟩ := hh
  refine ⟨I1.kIn, ?_⟩
  have r2 : Vals (vs ++ dvs) (us ++ ds) := r.append hd
  have hl : (us ++ ds).length = ps.length := by rw [← r2.length]; exact F.len _ _ _ _ q
  refine wpAny_call (codeAny_mono (F.run X.A X.stack s1 H1 ⟨us, []⟩ (us ++ ds) (vs ++ dvs) Q E hG hr I1.env0 (hb s1 us I1.kIn hl) r2 q) fun r s' hq => ?_)
  match r, hq with
  | .error e, hq => exact hx pins σ H1 s1 e s' I1 hq
  | .ok (.ret u), hq => exact I1.after hq
  | .ok .next, hq => exact False.elim hq
  | .ok .brk, hq => exact False.elim hq
  | .ok .cont, hq => exact False.elim hq
/-- repr of a list or a tuple of plain things -/
def rRepr (K : PySem.W.Frag) : List V → Hp → VK → Prop := fun xs H Q => ∃ (a : Addr) (d : PyData), xs = [.ref a] ∧ Dp K H (.ref a) d ∧ d.showable = true ∧ d.hasDict = false ∧ d.depth ≤ 20 ∧ d.shown.length ≤ sizeLine ∧ Q (.str d.shown) H
theorem call_repr (hG : X.A.guards = some []) (hu : X.A.units + 64 < cLine) : CallR X (.builtin "repr") (rRepr X.K) := by
  intro pins s σ H xs us Q I r h
  obtain ⟨a, d, rfl, hd, hs, hn, hdp, hz, q⟩ := h
  obtain ⟨u, rfl, ru⟩ := vals1 r
  cases (show u = Value.ref a from ru)
  obtain ⟨as, rd⟩ := Dp.reads I d _ _ hd rfl
  exact repr_of_reads' rd hs (fun z => by rw [hn] at z; cases z) hG (by omega) (fun _ _ z => z) (fun h' u tk hk => ⟨.str d.shown, H, I.kept hk, ⟨u, rfl⟩, q⟩) hz
end
/-! ### the law's own call, of a def of that kind -/
section
variable {P : Program} {w : World} {K : PySem.W.Frag} {mg mb : Str → Option Value} {k : Nat} {fa a : Addr} {fd : FuncData} {x : Str} {sp : Sp} {s : Shared} {vs : List Value} {ns : List Int}
/-- the script alone may be tracked: where it is, what of it is known -/
structure Alone (P : Program) (w : World) (K : PySem.W.Frag) (s : Shared) (a : Addr) (ns : List Int) (H : Hp) : Prop where
  only : Only H
  seq : SqL K H a (ns.map V.int)
  ok : HOk P w H s.heap
  at_ : ∀ b u, H b = some u → b = a
  out : ∀ u, H a = some u → K.lookup a = none
theorem alone_ex (inn : K.In s.heap) (ha : s.heap.get? a = some { cls := .type "list", data := .seq vs.toArray }) (hi : IntsAre vs ns) (hl : ns.length ≤ sizeLine) : ∃ H, Alone P w K s a ns H := by
  have rv := vals_ints hi
  cases hk : K.lookup a with
  | some o =>
    obtain rfl : o = { cls := .type "list", data := .seq vs.toArray } := Option.some.inj ((inn a o hk).symm.trans ha)
    refine ⟨fun _ => none, fun _ => .inl rfl, .inr ⟨_, vs.toArray, _, hk, rfl, rfl, rfl, ?_, ?_⟩, fun _ _ z => (by cases z), fun _ _ z => (by cases z), fun _ z => (by cases z)⟩
    · rw [List.size_toArray, hi.length]; exact hl
    · rw [List.toList_toArray]; exact rv
  | none =>
    have one : ∀ b u, (upd (fun _ => none) a (.frz { cls := .type "list", data := .seq vs.toArray } (.lst (ns.map V.int)))) b = some u → b = a := fun b u z => by
      by_cases hb : b = a
      · exact hb
      · rw [upd_ne hb] at z; cases z
    refine ⟨upd (fun _ => none) a (.frz { cls := .type "list", data := .seq vs.toArray } (.lst (ns.map V.int))), fun b => ?_, .inl (.inr ⟨_, upd_same⟩), fun b u z => ?_, one, fun _ _ => hk⟩
    · by_cases hb : b = a
      · subst hb; exact .inr ⟨_, _, upd_same⟩
      · exact .inl (upd_ne hb)
    · obtain rfl := one b u z
      rw [upd_same] at z
      cases z
      exact ⟨ha, by rw [List.length_map]; exact hl, vs, _, rv, ha⟩
theorem law_callG (inn : K.In s.heap) (hns : s.heap.Ns mainGlobals mg) (hb : s.heap.Ns builtinsNs mb) (hbb : ∀ x : Str, x ≠ "__name__" → mb x = bootBuiltins x) (hlim : s.heap.NoLimit) (hg : s.gens = #[])
    (ha : s.heap.get? a = some { cls := .type "list", data := .seq vs.toArray }) (hi : IntsAre vs ns) (hl : ns.length ≤ sizeLine) (hr : Room k callerA)
    (F : ∀ base : Heap, K.In base → base.Ns mainGlobals mg → FnG P w K mg base CX0 k fa fd [x] sp) (hbind : ∀ (s : Shared) (u : Value), BindsTo s fd ⟨[u], []⟩ [(x, u)])
    (hsp : ∀ H : Hp, Only H → SqL K H a (ns.map V.int) → sp [.ref a] H (fun v _ => v = .bl true) fun _ _ _ => False) :
    codeAny (model P w) callerA (.call (.ref fa) ⟨[.ref a], []⟩) (fun r s' => r = .ok (.ret (.bool true)) ∧ OldK s.heap s'.heap ∧ s'.os = s.os ∧ AllBare s'.gens) s := by
  obtain ⟨H, N⟩ := alone_ex (P := P) (w := w) inn ha hi hl
  -- a dict is not the script: it is not tracked
  have free : ∀ {b : Addr} {o : Obj}, s.heap.get? b = some o → (∀ its n, o.data ≠ .seq its n) → H b = none := fun {b o} e z => by
    cases q : H b with
    | none => rfl
    | some u =>
      obtain rfl := N.at_ b u q
      rw [ha] at e
      cases e
      exact absurd rfl (z _ _)
  have space : ∀ {b : Addr} {m : Str → Option Value}, s.heap.Ns b m → (hidT s.heap H).Ns b m := fun {b m} z => by
    obtain ⟨o, es, ep, e, d, r⟩ := z
    exact ⟨o, es, ep, hidT_get e (free e fun _ _ y => by rw [d] at y; cases y), d, r⟩
  have inb : K.In (hidT s.heap H) := fun b o e => hidT_get (inn b o e) (by
    cases q : H b with
    | none => rfl
    | some u =>
      obtain rfl := N.at_ b u q
      rw [N.out u q] at e
      cases e)
  have md : Mod K mg (hidT s.heap H) := by
    obtain ⟨mc, l1, l2⟩ := hlim
    exact ⟨inb, space hns, ⟨mb, space hb, hbb⟩, mc, space l1, l2⟩
  have e0 : Env0 P w K mg (hidT s.heap H) callerA [] s H := ⟨rfl, md, fun _ _ e => of_hidT e, Nat.le_of_eq (hidT_size _ _), trivial, fun _ z => (nomatch z), N.ok, .of_eq hg⟩
  refine codeAny_mono ((F _ inb (space hns)).run callerA [] s H ⟨[.ref a], []⟩ [.ref a] [.ref a] _ _ rfl hr e0 (hbind s (.ref a)) (.cons rfl .nil) (hsp H N.only N.seq)) fun r s' h => ?_
  match r, h with
  | .error e, h => exact False.elim h
  | .ok .next, h => exact False.elim h
  | .ok .brk, h => exact False.elim h
  | .ok .cont, h => exact False.elim h
  | .ok (.ret u), h =>
    obtain ⟨v, H', os, bare, un, ok', r', q⟩ := h
    obtain rfl : v = .bl true := q
    obtain rfl : u = Value.bool true := r'
    refine ⟨rfl, OldK.of_keep fun b o e => ?_, os, bare⟩
    cases q : H b with
    | none => exact un.keep b o e q (fun z => (nomatch z)) (fun z => (nomatch z))
    | some u =>
      rcases N.only b with z | ⟨ob, xs, z⟩
      · rw [q] at z; cases z
      · have e1 : s.heap.get? b = some ob := (show ObjOk P w H s.heap b (.frz ob (.lst xs)) from N.ok b _ z).1
        have e2 : s'.heap.get? b = some ob := (show ObjOk P w H' s'.heap b (.frz ob (.lst xs)) from ok' b _ (un.frzs b ob _ z)).1
        exact (Option.some.inj (e.symm.trans e1)) ▸ e2
end
theorem walk_ofG {l : PySem.W.OpenLaw} {n k : Nat} {q : Program} {loose : List Str} {XP : (Str → Option Value) → Heap → Prop} {YP : World → Heap → Prop} {d : DefRec} {K : Params → PySem.W.Frag} {sp : World → Sp} {x : Str}
    (hn : l.most = some n) (hn2 : n ≤ sizeLine) (hdf : d.params.defaults = []) (hr : Room k callerA) (hY : ∀ (w : World) (h : Heap), YP w h → (K w.params).In h)
    (F : ∀ (w : World) (mg : Str → Option Value) (fa : Addr) (h : Heap), (K w.params).In h → h.Ns mainGlobals mg → mg d.name = some (.ref fa) →
      ∃ fd : FuncData, (∀ (s : Shared) (u : Value), BindsTo s fd ⟨[u], []⟩ [(x, u)]) ∧ ∀ base : Heap, (K w.params).In base → base.Ns mainGlobals mg → FnG l.prog w (K w.params) mg base CX0 k fa fd [x] (sp w))
    (hsp : ∀ (w : World) (H : Hp) (a : Addr) (ns : List Int), ns.length ≤ n → Only H → SqL (K w.params) H a (ns.map V.int) → sp w [.ref a] H (fun v _ => v = .bl true) fun _ _ _ => False) :
    PySem.W.WalkO q loose XP YP l.row.toRowW d [] (fun f vs => PySem.call f vs) := by
  refine Att.attach_call hn hdf fun w s0 s1 mg mb fa o pm cd doc a vs ns G Y ho hd hcd hmg hobj hints hlen hg => ?_
  obtain ⟨fd, hb, hF⟩ := F w mg fa _ (hY w _ Y) G.T.g hmg
  exact law_callG (hY w _ Y) G.T.g G.T.b G.T.builtins G.T.nolimit hg hobj hints (Nat.le_trans hlen hn2) hr hF hb fun H hO hS => hsp w H a ns hlen hO hS
/-! ### new instances whose __init__ may raise, within a try: what is raised is wished for at the slots -/
section
variable {X : Cx} {CX : CXT} {k : Nat} {f C : Addr} {fd : FuncData} {ps ks : List Str} {sp : Sp} {x : Str} {p pos : Pos} {e : Expr} {es : List Expr} {kws : List Keyword} {t tk : TA} {g : List Value → List Value → List Value} {gV : List V → List V → List V}
theorem run_makeA {pins : List (Addr × Obj)} {σ : L2.St} {H : Hp} {s : Shared} {Q : VK} {E : XK} {us : List Value} {kw : List (Str × Value)} {fu : Value → List Value} {fv : V → List V} (M : Mk X.K C f) (F : FnOk X.prog X.w X.K X.mg X.base CX k f fd ps sp) (hr : Room (k + 1) X.A)
    (hb : ∀ (s' : Shared) (v : Value), X.K.In s'.heap → BindsTo s' fd ⟨v :: us, kw⟩ (ps.zip (fu v))) (rr : ∀ a : Addr, Vals (fv (.ref a)) (fu (.ref a))) (hx : PassesAt CX X σ E) (I : Inv X pins σ H s)
    (h : ∀ x dx, H x = none → H dx = none → dx ≠ x → sp (fv (.ref x)) (upd (upd H dx (.own x)) x (.ins C dx [])) (fun v H2 => v = .non ∧ Q (.ref x) H2) E) :
    wpAny (model X.prog X.w) X.A (call (.ref C) us kw) (EP X pins σ Q) X.xe s := by
  have I2 := Inv.made (C := C) I
  have hq := h (s.heap.objs.size + 1) s.heap.objs.size (I.hok.fresh (Nat.le_succ _)) (I.hok.fresh (Nat.le_refl _)) (Nat.ne_of_lt (Nat.lt_succ_self _))
  refine wpAny_call (make_map (f := f) I.kIn M.makes M.init (beq_iff_eq.mp M.fn) (codeAny_mono (F.run _ X.stack _ _ ⟨Value.ref (s.heap.objs.size + 1) :: us, kw⟩ (fu (.ref (s.heap.objs.size + 1))) (fv (.ref (s.heap.objs.size + 1))) _ E
    (hr.make C us kw) (I2.env0.make C us kw) (hb _ _ I2.kIn) (rr _) hq) fun r s' z => ?_))
  match r, z with
  | .error e, z => exact hx pins _ _ e s' I2 z
  | .ok .next, z => exact False.elim z
  | .ok .brk, z => exact False.elim z
  | .ok .cont, z => exact False.elim z
  | .ok (.ret u), z =>
    obtain ⟨v, H', I3, rv, rfl, q3⟩ := I2.after z
    exact ⟨rv, .ref (s.heap.objs.size + 1), H', I3, rfl, q3⟩
def tMakeS (C : Addr) (sp : Sp) (E : L2.St → XK) (t : TA) : TE := fun σ H Q => t σ H fun vs H1 => ∀ x dx, H1 x = none → H1 dx = none → dx ≠ x → sp (.ref x :: vs) (upd (upd H1 dx (.own x)) x (.ins C dx [])) (fun v H2 => v = .non ∧ Q (.ref x) H2) (E σ)
def tMakeKS (C : Addr) (m : Nat) (sp : Sp) (gV : List V → List V → List V) (E : L2.St → XK) (tk : TA) : TE := fun σ H Q => tk σ H fun zs H1 => zs.length = m ∧ ∀ x dx, H1 x = none → H1 dx = none → dx ≠ x → sp (gV [.ref x] zs) (upd (upd H1 dx (.own x)) x (.ins C dx [])) (fun v H2 => v = .non ∧ Q (.ref x) H2) (E σ)
theorem pe_makeS {E : L2.St → XK} (M : Mk X.K C f) (F : FnOk X.prog X.w X.K X.mg X.base CX k f fd ps sp) (hr : Room (k + 1) X.A) (hg : Gl X x) (hm : X.mg x = some (.ref C)) (hb : Binds X.K fd ps []) (hx : ∀ σ, PassesAt CX X σ (E σ)) (ha : PA X (e :: es) t)
    (hdb : (x == ("__debug__" : Str)) = false := by decide) (he : starEach (e :: es) X.env = (false, eval e X.env) :: starEach es X.env := by rfl) (hpl : (backTo pos (starEach es X.env)).any (fun q => q.1) = false := by rfl) :
    PE X (.Call (.Name x p) (e :: es) [] pos) (tMakeS C sp E t) := by
  refine ⟨fun pins s σ H Q I h => wpAny_Call_Name_kw (ld_glob I hg hm ?_ hdb)⟩
  refine PySem.W.callWith_K (h₀ := X.base) I.ok.mod.kin M.kp (thn (ha.run pos pins s σ H _ I h) fun us s1 hh => ?_) he hpl
  obtain ⟨vs, H1, I1, r, q⟩ := hh
  refine ⟨I1.kIn, ?_⟩
  have hq := q (s1.heap.objs.size + 1) s1.heap.objs.size (I1.hok.fresh (Nat.le_succ _)) (I1.hok.fresh (Nat.le_refl _)) (Nat.ne_of_lt (Nat.lt_succ_self _))
  have hl := F.len _ _ _ _ hq
  have hl2 : vs.length = us.length := r.length
  refine run_makeA (fu := fun v => v :: us) (fv := fun v => v :: vs) M F hr (fun s' v inn => ?_) (fun a => .cons rfl r) (hx σ) I1 q
  have z := hb s' (v :: us) inn (by rw [List.append_nil, List.length_cons, ← hl2]; exact hl)
  rw [List.append_nil] at z
  exact z
theorem pe_makeKS {E : L2.St → XK} (M : Mk X.K C f) (F : FnOk X.prog X.w X.K X.mg X.base CX k f fd ps sp) (hr : Room (k + 1) X.A) (hg : Gl X x) (hm : X.mg x = some (.ref C)) (hb : KBn X.K fd ps 1 ks g gV) (hx : ∀ σ, PassesAt CX X σ (E σ)) (hkw : PK X kws tk)
    (hall : (backToKw pos (keywordEach kws X.env)).all (fun q => q.1.isSome) = true := by rfl) (hks : (backToKw pos (keywordEach kws X.env)).filterMap (fun q => q.1) = ks := by rfl) (hdb : (x == ("__debug__" : Str)) = false := by decide)
    (hpl : ((backTo pos (starEach [] X.env)).any (fun q => q.1) || (backToKw pos (keywordEach kws X.env)).any (fun q => q.1.isNone)) = false := by rfl) :
    PE X (.Call (.Name x p) [] kws pos) (tMakeKS C ks.length sp gV E tk) := by
  refine ⟨fun pins s σ H Q I h => wpAny_Call_Name_kw (ld_glob I hg hm ?_ hdb)⟩
  refine PySem.W.callWith_KW0 (h₀ := X.base) I.ok.mod.kin M.kp hall (thn (hkw.run pos pins s σ H _ I h) fun ws s2 hh => ?_) hpl
  obtain ⟨zs, H2, I2, rz, l2, q2⟩ := hh
  refine ⟨I2.kIn, ?_⟩
  rw [hks]
  exact run_makeA (fu := fun v => g [v] ws) (fv := fun v => gV [v] zs) M F hr (fun s' v inn => hb.to s' [v] ws inn rfl (rz.length.symm.trans l2)) (fun a => hb.rel (.cons rfl .nil) rz) (hx σ) I2 q2
theorem kb_mk1 {K : PySem.W.Frag} {x qual : Str} {st : Stmt} {f : Addr} {fd : FuncData} {ps ks : List Str} {g : List Value → List Value → List Value} {gV : List V → List V → List V} (F : Fun K x qual st f fd)
    (h : ∀ (kV doc pm : Value) (an : Option Addr) (cdv ct : Value) (v : Value) (ws : List Value), ws.length = ks.length → bindArgs (PySem.W.fnOf x qual (defArgs st) (defBody st) (defScope st) .none kV doc pm an cdv ct) ⟨[v], ks.zip ws⟩ = pure (ps.zip (g [v] ws)))
    (hrel : ∀ {vs : List V} {us : List Value} {zs : List V} {ws : List Value}, Vals vs us → Vals zs ws → Vals (gV vs zs) (g us ws)) : KBn K fd ps 1 ks g gV := by
  obtain ⟨oc, od, kV, doc, pm, an, cdv, ct, osl, rfl, lk, hcd⟩ := F.ex
  refine ⟨fun s us ws _ l1 l2 => ?_, hrel⟩
  match us, l1 with
  | [v], _ => exact .of_eq (h kV doc pm an cdv ct v ws l2)
/-- isinstance(e, C), e the caught exception, where its class is C or below it -/
def rIsEp (K : PySem.W.Frag) (cls : Value) (a : Addr) : List V → Hp → VK → Prop := fun xs H Q => ∃ C' : Addr, xs = [.ref a, .ref C'] ∧ PySem.W.isIn K cls C' = true ∧ Q (.bl true) H
theorem call_isEp {a : Addr} {oe : Obj} {cls : Value} {d : Option Addr} {pn : List (Addr × Obj)} (hz : Zc cls d oe) : CallR (X.suite a ((a, oe) :: pn)) (.builtin "isinstance") (rIsEp X.K cls a) := by
  intro pins s σ H xs us Q I r h
  obtain ⟨C', rfl, e, q⟩ := h
  obtain ⟨u1, u2, rfl, r1, r2⟩ := vals2 r
  cases (show u1 = Value.ref a from r1)
  cases (show u2 = Value.ref C' from r2)
  obtain ⟨hget, _⟩ := I.pin (a, oe) (List.mem_append.mpr (.inl List.mem_cons_self))
  exact PySem.W.isi_call I.kIn (fun M A Q E s k q => wpAny_typeOf_ref (k _ _ hget) (by rw [hz.1]; exact q)) e (fun z => nomatch z) ⟨.bl true, H, I, rfl, q⟩
end
section
variable {σ : L2.St} {H : Hp} {Q : VK} {K : PySem.W.Frag} {C : Addr} {sp : Sp} {D : Ends}
theorem r_makeS {E : L2.St → XK} {t : TA} (h : t σ H fun vs H1 => ∀ x dx, H1 x = none → H1 dx = none → dx ≠ x → sp (.ref x :: vs) (upd (upd H1 dx (.own x)) x (.ins C dx [])) (fun v H2 => v = .non ∧ Q (.ref x) H2) (E σ)) : tMakeS C sp E t σ H Q := h
theorem r_makeKS {m : Nat} {gV : List V → List V → List V} {E : L2.St → XK} {tk : TA} (h : tk σ H fun zs H1 => zs.length = m ∧ ∀ x dx, H1 x = none → H1 dx = none → dx ≠ x → sp (gV [.ref x] zs) (upd (upd H1 dx (.own x)) x (.ins C dx [])) (fun v H2 => v = .non ∧ Q (.ref x) H2) (E σ)) : tMakeKS C m sp gV E tk σ H Q := h
theorem r_xf {a : Addr} {cls : Value} {d : Option Addr} {f : Str} {te : TE} (h : te σ H fun x H1 => x = .ref a ∧ cls = .ref C ∧ ∃ (dd : Addr) (fs : List (Str × V)) (v : V), d = some dd ∧ H1 dd = some (.xd fs) ∧ fs.lookup f = some v ∧ Q v H1) : tXf a cls d C f te σ H Q := h
theorem r_isEp {cls : Value} {a C' : Addr} (e : PySem.W.isIn K cls C' = true) (h : Q (.bl true) H) : rIsEp K cls a [.ref a, .ref C'] H Q := ⟨C', rfl, e, h⟩
/-- self.f = e in an exception's __init__: the first field, a later one -/
theorem r_ost {f : Str} {to te : TE} (h : te σ H fun y H1 => to σ H1 fun x H2 => ∃ a C : Addr, x = .ref a ∧ OexC K C ∧ PySem.W.findIn K (.ref C) f = some none ∧
  ((H2 a = some (exo a C none) ∧ ∀ dx, H2 dx = none → dx ≠ a → D.nx σ (upd (upd H2 dx (exd dx [(f, y)])) a (exo a C (some dx)))) ∨
    ∃ (dx : Addr) (fs : List (Str × V)), H2 a = some (exo a C (some dx)) ∧ H2 dx = some (exd dx fs) ∧ fs.length ≤ 900 ∧ D.nx σ (upd H2 dx (exd dx ((f, y) :: fs))))) : tOst K f to te D σ H := h
theorem r_ost1 {a : Addr} {f : Str} {F G : Addr → Addr → Prop} {Z : Addr → Addr → Prop} (T : OexC K C) (n : PySem.W.findIn K (.ref C) f = some none) (ha : H a = some (exo a C none)) (h : F a C) : ∃ a' C : Addr, V.ref a = .ref a' ∧ OexC K C ∧ PySem.W.findIn K (.ref C) f = some none ∧ ((H a' = some (exo a' C none) ∧ F a' C) ∨ G a' C) := ⟨a, C, rfl, T, n, .inl ⟨ha, h⟩⟩
end
/-! ### wrappers that name the written part: for comprehensions, try bodies, suites -/
section
variable {X : Cx} {K : PySem.W.Frag} {o e : Expr} {f : Str} {ta te : TE} {pos : Pos}
theorem pe_fldK (ha : PE X o ta) (hK : X.K = K := by rfl) (hb : attributeBase o f X.env (eval o X.env) = eval o X.env := by rfl) : PE X (.Attribute o f pos) (tFld K ta f) := by
  subst hK
  exact pe_fld ha hb
end
/-! ### a + b by an own def that may raise, within a try -/
def tBinS (C : Addr) (sp : Sp) (E : L2.St → XK) (ta tb : TE) : TE := fun σ H Q => ta σ H fun x H1 => tb σ H1 fun y H2 => ∃ a dx fs b dy gs, x = .ref a ∧ y = .ref b ∧ H2 a = some (.ins C dx fs) ∧ H2 b = some (.ins C dy gs) ∧ sp [x, y] H2 Q (E σ)
section
variable {X : Cx} {CX : CXT} {k : Nat} {g C : Addr} {fd : FuncData} {ps : List Str} {sp : Sp} {a b : Expr} {ta tb : TE} {pos : Pos} {op : Operator}
theorem pe_binS {E : L2.St → XK} (hc : PySem.W.selfFirst X.K C = true) (hs : PySem.W.findIn X.K (.ref C) (PySem.dunder op.info.2) = some (some (.ref g))) (hf : PySem.W.isFn X.K (.ref g) = true) (F : FnOk X.prog X.w X.K X.mg X.base CX k g fd ps sp) (hr : Room k X.A) (hb : Binds X.K fd ps []) (hx : ∀ σ, PassesAt CX X σ (E σ))
    (h1 : PE X a ta) (h2 : PE X b tb) : PE X (.BinOp a op b pos) (tBinS C sp E ta tb) := by
  refine ⟨fun pins s σ H Q I h => wpAny_BinOp (binT h1 h2 I h fun v u s2 x y H2 I2 rx ry q => ?_)⟩
  obtain ⟨p, dx, fs, r, dy, gs, rfl, rfl, ha, hb', q⟩ := q
  cases (show v = Value.ref p from rx)
  cases (show u = Value.ref r from ry)
  obtain ⟨ox, od, J⟩ := inst_at I2 ha
  obtain ⟨oy, oe, J'⟩ := inst_at I2 hb'
  obtain ⟨m, hF⟩ := I2.fr
  refine PySem.W.binop_K (op := op) hF I2.ok.mod.kin J J'.type hc hs hf (wpAny_mono (run_fnS (us := [.ref p, .ref r]) (vs := [.ref p, .ref r]) F hr hb (hx σ) I2 (.cons rfl (.cons rfl .nil)) q) (fun w s' z => ?_) fun _ _ e => e)
  obtain ⟨z', H', I', rz, qz⟩ := z
  exact cmpb rz ⟨z', H', I', rz, qz⟩
end
theorem r_binS {σ : L2.St} {H : Hp} {Q : VK} {C : Addr} {sp : Sp} {E : L2.St → XK} {ta tb : TE} (h : ta σ H fun x H1 => tb σ H1 fun y H2 => ∃ a dx fs b dy gs, x = .ref a ∧ y = .ref b ∧ H2 a = some (.ins C dx fs) ∧ H2 b = some (.ins C dy gs) ∧ sp [x, y] H2 Q (E σ)) : tBinS C sp E ta tb σ H Q := h
/-! ### ends: None or an int -/
def endV : Option Int → V
  | none => .non
  | some i => .int i
def endD : Option Int → PyData
  | none => .none
  | some i => .int i
/-- a small end: what repr takes -/
def EndOk (e : Option Int) : Prop := ∀ i, e = some i → -(10 ^ 60) < i ∧ i < 10 ^ 60
theorem log_ok {i : Int} (h : -(10 ^ 60) < i ∧ i < 10 ^ 60) : i.natAbs.log2 < 1920 := by
  have h1 : i.natAbs < 2 ^ 200 := by
    have : i.natAbs < 10 ^ 60 := by omega
    exact Nat.lt_trans this (by decide)
  have h2 : i.natAbs.log2 < 200 := by
    by_cases e : i.natAbs = 0
    · rw [e]; decide
    · exact (Nat.log2_lt e).mpr h1
  omega
theorem dp_end {K : PySem.W.Frag} {H : Hp} (e : Option Int) : Dp K H (endV e) (endD e) := by
  cases e with
  | none => exact .non
  | some i => exact .int i
theorem show_end {e : Option Int} (h : EndOk e) : (endD e).showable = true := by
  cases e with
  | none => rfl
  | some i => exact decide_eq_true (log_ok (h i rfl))
theorem len_end {e : Option Int} (h : EndOk e) : ((endD e).shown).length ≤ 2000 := by
  cases e with
  | none => decide +kernel
  | some i => exact Nat.le_trans (PyProof.Rows.int_text_len_1921 (log_ok (h i rfl))) (by decide)
section
variable {H : Hp} {Q : VK} {K : PySem.W.Frag} {X : Cx}
def rIsNo : R2 := fun x y H Q => y = .non ∧ Q (.bl (decide (x = .non))) H
def rNotNo : R2 := fun x y H Q => y = .non ∧ Q (.bl (!decide (x = .non))) H
theorem o_isN : OpR X (compareOp .Is) rIsNo := op_isN
theorem o_notN : OpR X (compareOp .IsNot) rNotNo := op_notN
theorem r_isNe {e : Option Int} (h : Q (.bl (!e.isSome)) H) : rIsNo (endV e) .non H Q := by
  cases e with
  | none => exact ⟨rfl, h⟩
  | some i => exact ⟨rfl, h⟩
theorem r_notNe {e : Option Int} (h : Q (.bl e.isSome) H) : rNotNo (endV e) .non H Q := by
  cases e with
  | none => exact ⟨rfl, h⟩
  | some i => exact ⟨rfl, h⟩
theorem r_isNi {i : Int} (h : Q (.bl false) H) : rIsNo (.int i) .non H Q := ⟨rfl, h⟩
theorem r_isNn (h : Q (.bl true) H) : rIsNo .non .non H Q := ⟨rfl, h⟩
theorem r_isNr {a : Addr} (h : Q (.bl false) H) : rIsNo (.ref a) .non H Q := ⟨rfl, h⟩
theorem r_notNi {i : Int} (h : Q (.bl true) H) : rNotNo (.int i) .non H Q := ⟨rfl, h⟩
theorem r_notNn (h : Q (.bl false) H) : rNotNo .non .non H Q := ⟨rfl, h⟩
theorem r_notNr {a : Addr} (h : Q (.bl true) H) : rNotNo (.ref a) .non H Q := ⟨rfl, h⟩
/-- repr of a list of two ends -/
theorem r_repr2 {a : Addr} {b c : Option Int} (h : H a = some (.lst [endV b, endV c])) (hb : EndOk b) (hc : EndOk c) (q : Q (.str (PyData.list [endD b, endD c]).shown) H) : rRepr K [.ref a] H Q := by
  refine ⟨a, .list [endD b, endD c], rfl, .lst (SqL.of h) (.cons (dp_end b) (.cons (dp_end c) .nil)), ?_, ?_, ?_, ?_, q⟩
  · show ((endD b).showable && ((endD c).showable && true)) = true
    rw [show_end hb, show_end hc]; rfl
  · cases b <;> cases c <;> rfl
  · cases b <;> cases c <;> exact Nat.le_of_ble_eq_true rfl
  · have h1 := len_end hb
    have h2 := len_end hc
    have h3 := listText_len_le (PyData.shownAll [endD b, endD c])
    have h4 : (PyData.shownAll [endD b, endD c]).length = 2 := rfl
    have h5 : ((PyData.shownAll [endD b, endD c]).map (fun t => t.length)).sum = (endD b).shown.length + ((endD c).shown.length + 0) := rfl
    show (listText (PyData.shownAll [endD b, endD c])).length ≤ sizeLine
    rw [h5, h4] at h3
    exact Nat.le_trans h3 (Nat.le_trans (show _ ≤ 5000 by omega) (by decide))
end
/-! ### stretches -/
def turnedB : Option Int → Option Int → Bool
  | some a, some b => decide (b < a)
  | _, _ => false
def loB : Option Int → Int → Bool
  | none, _ => true
  | some a, n => decide (a ≤ n)
def hiB : Option Int → Int → Bool
  | none, _ => true
  | some b, n => decide (n ≤ b)
def inB (lo hi : Option Int) (n : Int) : Bool := loB lo n && hiB hi n
def strF (lo hi : Option Int) : List (Str × V) := putF "high" (endV hi) (putF "low" (endV lo) [])
theorem n_lh : ¬ (("low" : Str) = "high") := by decide +kernel
theorem str_low (lo hi : Option Int) : (strF lo hi).lookup ("low" : Str) = some (endV lo) := by
  unfold strF
  rw [lookup_putF, if_neg n_lh, lookup_putF, if_pos rfl]
theorem str_high (lo hi : Option Int) : (strF lo hi).lookup ("high" : Str) = some (endV hi) := by
  unfold strF
  rw [lookup_putF, if_pos rfl]
theorem str_no (lo hi : Option Int) {m : Str} (h1 : ¬ m = "high") (h2 : ¬ m = "low") : (strF lo hi).lookup m = none := by
  unfold strF
  rw [lookup_putF, if_neg h1, lookup_putF, if_neg h2]
  rfl
theorem putF_len (f : Str) (v : V) : ∀ fs : List (Str × V), (putF f v fs).length ≤ fs.length + 1
  | [] => Nat.le_refl _
  | (g, x) :: r => by
    unfold putF
    split
    · show r.length + 1 ≤ r.length + 1 + 1
      omega
    · show (putF f v r).length + 1 ≤ r.length + 1 + 1
      have := putF_len f v r
      omega
def StrAt (C : Addr) (H : Hp) (p : Addr) (lo hi : Option Int) : Prop := ∃ dx, H p = some (.ins C dx (strF lo hi))
theorem StrAt.same {C : Addr} {H H' : Hp} {p : Addr} {lo hi : Option Int} (h : StrAt C H p lo hi) (s : Same H H') : StrAt C H' p lo hi := by
  obtain ⟨dx, e⟩ := h
  exact ⟨dx, s _ _ e⟩
/-- what is no list is not among the draws -/
theorem Ext.keep {d c r : Addr} {H H' : Hp} {b : Addr} {o : HO} (e : Ext d r H H') (D : Drw H d c r) (h : H b = some o) (n : ∀ xs, o ≠ .lst xs) : H' b = some o := by
  obtain ⟨_, _, _, _, _, _, h1, _, h3, _⟩ := D
  exact e b o h (ne_of h h1 (n _)) (ne_of h h3 (n _))
theorem StrAt.ext {C : Addr} {H H' : Hp} {p d c r : Addr} {lo hi : Option Int} (h : StrAt C H p lo hi) (e : Ext d r H H') (D : Drw H d c r) : StrAt C H' p lo hi := by
  obtain ⟨dx, z⟩ := h
  exact ⟨dx, e.keep D z fun _ q => nomatch q⟩
/-- the dict of a TurnedStretch -/
def turnF (lo hi : Option Int) : List (Str × V) := [("high", endV hi), ("low", endV lo)]
theorem turn_low (lo hi : Option Int) : (turnF lo hi).lookup ("low" : Str) = some (endV lo) := by
  unfold turnF
  rw [lookup_put, if_neg n_lh, lookup_put, if_pos rfl]
theorem turn_high (lo hi : Option Int) : (turnF lo hi).lookup ("high" : Str) = some (endV hi) := by
  unfold turnF
  rw [lookup_put, if_pos rfl]
def spTInit (C : Addr) : Sp := fun vs H Q _ => ∃ (a : Addr) (lo hi : Option Int), vs = [.ref a, endV lo, endV hi] ∧ H a = some (exo a C none) ∧
  ∀ (dx : Addr) (H' : Hp), H dx = none → H' a = some (exo a C (some dx)) → H' dx = some (exd dx (turnF lo hi)) → (∀ b o, H b = some o → b ≠ a → H' b = some o) → Q .non H'
def spSInit (C CT : Addr) : Sp := fun vs H Q E => ∃ (p dx : Addr) (lo hi : Option Int), vs = [.ref p, endV lo, endV hi] ∧ H p = some (.ins C dx []) ∧
  (turnedB lo hi = true → ∀ (d : Addr) (H' : Hp), H d = none → H' d = some (.xd (turnF lo hi)) → Same H H' → E (.ref CT) (some d) H') ∧
  (turnedB lo hi = false → ∀ H', StrAt C H' p lo hi → (∀ b o, H b = some o → b ≠ p → H' b = some o) → Q .non H')
def spSIn (C : Addr) : Sp := fun vs H Q _ => ∃ (p : Addr) (lo hi : Option Int) (n : Int), vs = [.ref p, .int n] ∧ StrAt C H p lo hi ∧ Q (.bl (inB lo hi n)) H
/-! ### flat data: None, truths, ints, texts, in a list or a tuple; repr and == of these -/
def vD : V → PyData
  | .non => .none
  | .bl b => .bool b
  | .int i => .int i
  | .str x => .str x
  | _ => .none
def okD : V → Prop
  | .non => True
  | .bl _ => True
  | .int i => -(10 ^ 60) < i ∧ i < 10 ^ 60
  | .str x => (reprText x).length ≤ 1000 ∧ PyData.strOk x = true
  | _ => False
/-- what may be compared: no bound on ints -/
def eqD : V → Prop
  | .non => True
  | .bl _ => True
  | .int _ => True
  | .str x => PyData.strOk x = true
  | _ => False
theorem okD.eq {v : V} (h : okD v) : eqD v := by
  cases v <;> first | exact trivial | exact h.2 | exact h.elim
theorem log_okI {i : Int} (h : -(10 ^ 60) < i ∧ i < 10 ^ 60) : i.natAbs.log2 < 1920 := by
  have h1 : i.natAbs < 2 ^ 200 := by
    have : i.natAbs < 10 ^ 60 := by omega
    exact Nat.lt_trans this (by decide)
  have h2 : i.natAbs.log2 < 200 := by
    by_cases e : i.natAbs = 0
    · rw [e]; decide
    · exact (Nat.log2_lt e).mpr h1
  omega
theorem dp_vD {K : PySem.W.Frag} {H : Hp} {v : V} (h : eqD v) : Dp K H v (vD v) := by
  cases v with
  | non => exact .non
  | bl b => exact .bl b
  | int i => exact .int i
  | str x => exact .str x
  | byt b => exact h.elim
  | flt b => exact h.elim
  | ref a => exact h.elim
  | ty n => exact h.elim
theorem dpAll_vD {K : PySem.W.Frag} {H : Hp} : ∀ {vs : List V}, (∀ v ∈ vs, eqD v) → DpAll K H vs (vs.map vD)
  | [], _ => .nil
  | v :: vs, h => .cons (dp_vD (h v List.mem_cons_self)) (dpAll_vD fun w hw => h w (List.mem_cons_of_mem _ hw))
theorem show_vD : ∀ {vs : List V}, (∀ v ∈ vs, okD v) → PyData.showableAll (vs.map vD) = true
  | [], _ => rfl
  | v :: vs, h => by
    have h1 := h v List.mem_cons_self
    have e : (vD v).showable = true := by
      cases v <;> first | rfl | exact decide_eq_true (log_okI h1)
    show ((vD v).showable && PyData.showableAll (vs.map vD)) = true
    rw [e, show_vD fun w hw => h w (List.mem_cons_of_mem _ hw)]
    rfl
theorem dict_vD : ∀ (vs : List V), PyData.hasDictAll (vs.map vD) = false
  | [] => rfl
  | v :: vs => by
    show ((vD v).hasDict || PyData.hasDictAll (vs.map vD)) = false
    rw [dict_vD vs]
    cases v <;> rfl
theorem depth_vD : ∀ (vs : List V), PyData.depthAll (vs.map vD) = 0
  | [] => rfl
  | v :: vs => by
    show max (vD v).depth (PyData.depthAll (vs.map vD)) = 0
    rw [depth_vD vs]
    cases v <;> rfl
theorem len_vD : ∀ {vs : List V}, (∀ v ∈ vs, okD v) → (PyData.shownAll (vs.map vD)).length = vs.length ∧ ((PyData.shownAll (vs.map vD)).map (fun t => t.length)).sum ≤ 2000 * vs.length
  | [], _ => ⟨rfl, Nat.le_refl _⟩
  | v :: vs, h => by
    obtain ⟨i1, i2⟩ := len_vD (vs := vs) fun w hw => h w (List.mem_cons_of_mem _ hw)
    have h1 := h v List.mem_cons_self
    have e : ((vD v).shown).length ≤ 2000 := by
      cases v with
      | non => decide +kernel
      | bl b => cases b <;> decide +kernel
      | int i => exact Nat.le_trans (PyProof.Rows.int_text_len_1921 (log_okI h1)) (by decide)
      | str x => exact Nat.le_trans h1.1 (by decide)
      | byt b => exact h1.elim
      | flt b => exact h1.elim
      | ref a => exact h1.elim
      | ty n => exact h1.elim
    refine ⟨?_, ?_⟩
    · show (PyData.shownAll (vs.map vD)).length + 1 = vs.length + 1
      rw [i1]
    · show (((vD v).shown).length :: (PyData.shownAll (vs.map vD)).map (fun t => t.length)).sum ≤ 2000 * (vs.length + 1)
      rw [List.sum_cons]
      omega
section
variable {H : Hp} {Q : VK} {K : PySem.W.Frag} {a b : Addr} {vs ws : List V}
def tupD (vs : List V) : PyData := .tuple (vs.map vD)
def lstD (vs : List V) : PyData := .list (vs.map vD)
theorem r_reprT (h : SqT K H a vs) (hv : ∀ v ∈ vs, okD v) (hl : vs.length ≤ 50) (q : Q (.str (tupD vs).shown) H) : rRepr K [.ref a] H Q := by
  refine ⟨a, tupD vs, rfl, .tup h (dpAll_vD fun v hw => (hv v hw).eq), show_vD hv, dict_vD vs, ?_, ?_, q⟩
  · show PyData.depthAll (vs.map vD) + 1 ≤ 20
    rw [depth_vD]
    decide
  · obtain ⟨i1, i2⟩ := len_vD hv
    have h3 := tupleText_len_le (PyData.shownAll (vs.map vD))
    rw [i1] at h3
    exact Nat.le_trans h3 (Nat.le_trans (show _ ≤ 200000 by omega) (by decide))
theorem r_reprL (h : SqL K H a vs) (hv : ∀ v ∈ vs, okD v) (hl : vs.length ≤ 50) (q : Q (.str (lstD vs).shown) H) : rRepr K [.ref a] H Q := by
  refine ⟨a, lstD vs, rfl, .lst h (dpAll_vD fun v hw => (hv v hw).eq), show_vD hv, dict_vD vs, ?_, ?_, q⟩
  · show PyData.depthAll (vs.map vD) + 1 ≤ 20
    rw [depth_vD]
    decide
  · obtain ⟨i1, i2⟩ := len_vD hv
    have h3 := listText_len_le (PyData.shownAll (vs.map vD))
    rw [i1] at h3
    exact Nat.le_trans h3 (Nat.le_trans (show _ ≤ 200000 by omega) (by decide))
theorem lay_vD : ∀ {vs : List V}, (∀ v ∈ vs, eqD v) → PyData.canLayAll0 (vs.map vD) = true
  | [], _ => rfl
  | v :: vs, h => by
    have h1 := h v List.mem_cons_self
    have e : (vD v).canLay0 = true := by cases v <;> first | rfl | exact h1
    show ((vD v).canLay0 && PyData.canLayAll0 (vs.map vD)) = true
    rw [e, lay_vD fun w hw => h w (List.mem_cons_of_mem _ hw)]
    rfl
theorem shaped_tup (h : ∀ v ∈ vs, eqD v) : SeqAt.shaped (tupD vs) = true := by
  unfold SeqAt.shaped
  rw [show (tupD vs).canLay0 = true from lay_vD h]
  show decide (PyData.depthAll (vs.map vD) + 1 ≤ 64) = true
  rw [depth_vD]
  rfl
theorem shaped_lst (h : ∀ v ∈ vs, eqD v) : SeqAt.shaped (lstD vs) = true := by
  unfold SeqAt.shaped
  rw [show (lstD vs).canLay0 = true from lay_vD h]
  show decide (PyData.depthAll (vs.map vD) + 1 ≤ 64) = true
  rw [depth_vD]
  rfl
/-- equality of flat data of the same kinds, place by place -/
def sameKind : V → V → Bool
  | .int _, .bl _ => false
  | .bl _, .int _ => false
  | _, _ => true
theorem eqv_vD {x y : V} (hx : eqD x) (hy : eqD y) (k : sameKind x y = true) : PyData.eqv (vD x) (vD y) = decide (x = y) := by
  cases x <;> cases y <;> first
    | exact hx.elim
    | exact hy.elim
    | (cases k; done)
    | rfl
    | (rw [decide_eq_false fun z => nomatch z]; rfl)
    | skip
  · rename_i a b
    show (a == b) = _
    rw [eq_dbl]
  · rename_i a b
    show (a == b) = _
    rw [eq_dint]
    exact (Bool.beq_eq_decide_eq a b)
  · rename_i a b
    show (a == b) = _
    rw [eq_dstr]
    exact (Bool.beq_eq_decide_eq a b)
theorem eqv_all : ∀ {vs ws : List V}, (∀ v ∈ vs, eqD v) → (∀ v ∈ ws, eqD v) → (∀ p ∈ vs.zip ws, sameKind p.1 p.2 = true) → PyData.eqvAll (vs.map vD) (ws.map vD) = decide (vs = ws)
  | [], [], _, _, _ => rfl
  | [], w :: ws, _, _, _ => by rw [decide_eq_false fun z => nomatch z]; rfl
  | v :: vs, [], _, _, _ => by rw [decide_eq_false fun z => nomatch z]; rfl
  | v :: vs, w :: ws, h1, h2, h3 => by
    show (PyData.eqv (vD v) (vD w) && PyData.eqvAll (vs.map vD) (ws.map vD)) = _
    rw [eqv_vD (h1 v List.mem_cons_self) (h2 w List.mem_cons_self) (h3 (v, w) List.mem_cons_self), eqv_all (fun x hx => h1 x (List.mem_cons_of_mem _ hx)) (fun x hx => h2 x (List.mem_cons_of_mem _ hx)) fun p hp => h3 p (List.mem_cons_of_mem _ hp), Bool.eq_iff_iff, Bool.and_eq_true, decide_eq_true_eq, decide_eq_true_eq, decide_eq_true_eq, List.cons.injEq]
theorem r_neTT (h1 : SqT K H a vs) (h2 : SqT K H b ws) (e1 : ∀ v ∈ vs, eqD v) (e2 : ∀ v ∈ ws, eqD v) (k : ∀ p ∈ vs.zip ws, sameKind p.1 p.2 = true) (q : Q (.bl (!decide (vs = ws))) H) : rNeD K (.ref a) (.ref b) H Q := by
  refine ⟨tupD vs, tupD ws, .tup h1 (dpAll_vD e1), .tup h2 (dpAll_vD e2), shaped_tup e1, shaped_tup e2, ?_⟩
  show Q (.bl (!PyData.eqvAll (vs.map vD) (ws.map vD))) H
  rw [eqv_all e1 e2 k]
  exact q
theorem r_eqTT (h1 : SqT K H a vs) (h2 : SqT K H b ws) (e1 : ∀ v ∈ vs, eqD v) (e2 : ∀ v ∈ ws, eqD v) (k : ∀ p ∈ vs.zip ws, sameKind p.1 p.2 = true) (q : Q (.bl (decide (vs = ws))) H) : rEqD K (.ref a) (.ref b) H Q := by
  refine ⟨tupD vs, tupD ws, .tup h1 (dpAll_vD e1), .tup h2 (dpAll_vD e2), shaped_tup e1, shaped_tup e2, ?_⟩
  show Q (.bl (PyData.eqvAll (vs.map vD) (ws.map vD))) H
  rw [eqv_all e1 e2 k]
  exact q
theorem r_neLL (h1 : SqL K H a vs) (h2 : SqL K H b ws) (e1 : ∀ v ∈ vs, eqD v) (e2 : ∀ v ∈ ws, eqD v) (k : ∀ p ∈ vs.zip ws, sameKind p.1 p.2 = true) (q : Q (.bl (!decide (vs = ws))) H) : rNeD K (.ref a) (.ref b) H Q := by
  refine ⟨lstD vs, lstD ws, .lst h1 (dpAll_vD e1), .lst h2 (dpAll_vD e2), shaped_lst e1, shaped_lst e2, ?_⟩
  show Q (.bl (!PyData.eqvAll (vs.map vD) (ws.map vD))) H
  rw [eqv_all e1 e2 k]
  exact q
end
/-! ### texts whose signs are signs -/
theorem sok_app {x y : Str} (hx : PyData.strOk x = true) (hy : PyData.strOk y = true) : PyData.strOk (x ++ y) = true := by
  show (x.cps ++ y.cps).all _ = true
  rw [Array.all_append]
  exact Bool.and_eq_true_iff.mpr ⟨hx, hy⟩
theorem sok_of (s : String) : PyData.strOk (Str.ofString s) = true := by
  rw [Str.ofString_eq_toList]
  show Array.all _ _ = true
  rw [List.all_toArray, List.all_map, List.all_eq_true]
  intro c _
  refine decide_eq_true ?_
  have := c.valid
  rcases this with z | z
  · exact Nat.lt_trans z (by decide)
  · exact z.2
theorem sok_join : ∀ {ts : List Str}, (∀ t ∈ ts, PyData.strOk t = true) → PyData.strOk (Str.join ", " ts) = true
  | [], _ => by decide +kernel
  | [x], h => h x List.mem_cons_self
  | x :: y :: r, h => by
    show PyData.strOk (x ++ (", " : Str) ++ Str.join ", " (y :: r)) = true
    exact sok_app (sok_app (h x List.mem_cons_self) (sok_of ", ")) (sok_join fun t ht => h t (List.mem_cons_of_mem _ ht))
theorem sok_tup {ts : List Str} (h : ∀ t ∈ ts, PyData.strOk t = true) : PyData.strOk (tupleText ts) = true := by
  unfold tupleText
  exact sok_app (sok_app (sok_of "(") (sok_join h)) (sok_of _)
theorem sok_from : ∀ {ts : List Str} {k : Nat} {acc : Str}, PyData.strOk acc = true → (∀ t ∈ ts, PyData.strOk t = true) → PyData.strOk (textFrom k acc ts) = true
  | [], _, _, ha, _ => ha
  | t :: ts, k, acc, ha, h => by
    unfold textFrom
    refine sok_from ?_ fun x hx => h x (List.mem_cons_of_mem _ hx)
    split
    · exact sok_app (sok_app ha (sok_of ", ")) (h t List.mem_cons_self)
    · exact sok_app ha (h t List.mem_cons_self)
theorem sok_lst {ts : List Str} (h : ∀ t ∈ ts, PyData.strOk t = true) : PyData.strOk (listText ts) = true := by
  unfold listText
  exact sok_app (sok_from (sok_of "[") h) (sok_of "]")
/-- a text whose repr is a text of signs (the laws' own words are) -/
def okR : V → Prop
  | .str x => PyData.strOk (reprText x) = true
  | _ => True
theorem sok_all : ∀ {vs : List V}, (∀ v ∈ vs, okR v) → ∀ t ∈ PyData.shownAll (vs.map vD), PyData.strOk t = true
  | [], _, t, ht => (nomatch ht)
  | v :: vs, h, t, ht => by
    have ht : t ∈ (vD v).shown :: PyData.shownAll (vs.map vD) := ht
    rcases List.mem_cons.mp ht with e | e
    · rw [e]
      cases v with
      | bl b => cases b <;> decide +kernel
      | int i => exact sok_of _
      | str x => exact h _ List.mem_cons_self
      | non => exact sok_of "None"
      | byt b => exact sok_of "None"
      | flt b => exact sok_of "None"
      | ref a => exact sok_of "None"
      | ty n => exact sok_of "None"
    · exact sok_all (fun w hw => h w (List.mem_cons_of_mem _ hw)) t e
theorem sok_tupD {vs : List V} (h : ∀ v ∈ vs, okR v) : PyData.strOk (tupD vs).shown = true := sok_tup (sok_all h)
theorem sok_lstD {vs : List V} (h : ∀ v ∈ vs, okR v) : PyData.strOk (lstD vs).shown = true := sok_lst (sok_all h)
/-! ### a list or a tuple, read alike; comprehensions over tuples and ranges -/
def SqA (K : PySem.W.Frag) (H : Hp) (p : Addr) (xs : List V) : Prop := SqL K H p xs ∨ SqT K H p xs
theorem same_tup {K : PySem.W.Frag} {H H' : Hp} {a : Addr} {xs : List V} (e : Same H H') (h : SqT K H a xs) : SqT K H' a xs := by
  rcases h with (h | ⟨o, h⟩) | h
  · exact .inl (.inl (e _ _ h))
  · exact .inl (.inr ⟨o, e _ _ h⟩)
  · exact .inr h
theorem SqA.same {K : PySem.W.Frag} {H H' : Hp} {a : Addr} {xs : List V} (h : SqA K H a xs) (e : Same H H') : SqA K H' a xs := h.imp (fun z => e.seq z) fun z => same_tup e z
theorem kAt_all {ns : List Int} {P : Int → Prop} (h : ∀ x ∈ ns, P x) {j : Nat} (hj : j < ns.length) : P (kAt ns j) := by
  have e : kAt ns j = ns[j] := by rw [kAt, List.getD_eq_getElem?_getD, List.getElem?_eq_getElem hj]; rfl
  rw [e]
  exact h _ (List.getElem_mem hj)
section
variable {σ : L2.St} {H : Hp} {Q : VK} {te : TE} {K : PySem.W.Frag} {a p : Addr} {xs : List V} {i : Int} {v : V}
theorem r_ixA (h : SqA K H p xs) (e : atI xs i = some v) (q : Q v H) : rIx K (.ref p) (.int i) H Q := by
  rcases h with h | h
  · exact .inl (r_ixL h e q)
  · exact .inr (.inl (r_ixT h e q))
def rTupA (K : PySem.W.Frag) : List V → Hp → VK → Prop := fun xs H Q => ∃ p ys, xs = [.ref p] ∧ ((SqL K H p ys ∧ ∀ l, H l = none → Q (.ref l) (upd H l (.tup ys))) ∨ (SqT K H p ys ∧ Q (.ref p) H))
theorem c_tupA {X : Cx} : CallR X (.type "tuple") (rTupA X.K) := call_tuple_of
theorem r_tupL (h : SqL K H p xs) (q : ∀ l, H l = none → Q (.ref l) (upd H l (.tup xs))) : rTupA K [.ref p] H Q := ⟨p, xs, rfl, .inl ⟨h, q⟩⟩
theorem r_tupA (h : SqA K H p xs) (q : ∀ l H', SqT K H' l xs → Same H H' → Q (.ref l) H') : rTupA K [.ref p] H Q := by
  rcases h with h | h
  · exact ⟨p, xs, rfl, .inl ⟨h, fun l nl => q l _ (SqT.of upd_same) (same_new nl)⟩⟩
  · exact ⟨p, xs, rfl, .inr ⟨h, q p H h (Same.refl H)⟩⟩
def rListA (K : PySem.W.Frag) : List V → Hp → VK → Prop := fun xs H Q => ∃ p ys, xs = [.ref p] ∧ (SqL K H p ys ∨ SqT K H p ys) ∧ ∀ l, H l = none → Q (.ref l) (upd H l (.lst ys))
theorem c_listA {X : Cx} : CallR X (.type "list") (rListA X.K) := call_list_of
theorem r_listA (h : SqA K H p xs) (q : ∀ l, H l = none → Q (.ref l) (upd H l (.lst xs))) : rListA K [.ref p] H Q := ⟨p, xs, rfl, h, q⟩
theorem r_catT {b : Addr} {ys : List V} (h1 : SqT K H a xs) (h2 : SqT K H b ys) (n1 : xs ≠ []) (n2 : ys ≠ []) (hz : xs.length + ys.length ≤ 1000) (q : ∀ p, H p = none → Q (.ref p) (upd H p (.tup (xs ++ ys)))) : rCatT K (.ref a) (.ref b) H Q :=
  ⟨a, b, xs, ys, rfl, rfl, h1, h2, n1, Nat.le_of_lt (small1000 hz), fun z => absurd z n2, fun _ => q⟩
theorem lc_mapT {n : Nat} (f : V → V) (hS : SqT K H a xs) (hz : xs.length ≤ 1000) (he : ∀ (x : V) (H' : Hp) (QQ : VK), x ∈ xs → Same H H' → QQ (f x) H' → te ((wipe σ [n]).set n (some x)) H' QQ)
    (hq : ∀ D, H D = none → Q (.ref D) (upd H D (.lst (xs.map f)))) : lcGo (Itt K a) (gName n) tYes te [n] σ Q H := by
  intro D hD
  refine lc_tup (K := K) (a := a) (xs := xs) (fun i H' => H' = upd H D (.lst ((xs.take i).map f))) rfl (fun i H' _ e => by subst e; exact same_tup (same_new hD) hS) ?_ ?_
  · rintro i x H' hx rfl
    refine ⟨wipe1, ?_⟩
    show te _ _ _
    refine he x _ _ (List.mem_of_getElem? hx) (same_new hD) ⟨(xs.take i).map f, upd_same, ?_, ?_⟩
    · rw [List.length_map, List.length_take]
      exact small1000 (by omega)
    · rw [upd_upd, List.take_add_one, hx, List.map_append]
      rfl
  · rintro H' rfl
    rw [List.take_length]
    exact hq D hD
theorem lc_mapR {n m : Nat} {lo : Int} (f : Nat → V) (hm : m ≤ 1000) (he : ∀ (i : Nat) (H' : Hp) (QQ : VK), i < m → Same H H' → QQ (f i) H' → te ((wipe σ [n]).set n (some (.int (lo + i)))) H' QQ)
    (hq : ∀ D, H D = none → Q (.ref D) (upd H D (.lst ((List.range m).map f)))) : lcGo (Itr lo m) (gName n) tYes te [n] σ Q H := by
  intro D hD
  refine lc_range (fun i H' => H' = upd H D (.lst ((List.range i).map f))) rfl ?_ ?_
  · rintro i H' hi rfl
    refine ⟨wipe1, ?_⟩
    show te _ _ _
    refine he i _ _ hi (same_new hD) ⟨(List.range i).map f, upd_same, ?_, ?_⟩
    · rw [List.length_map, List.length_range]
      exact small1000 (by omega)
    · rw [upd_upd, List.range_succ, List.map_append]
      rfl
  · rintro H' rfl
    exact hq D hD
end
/-! ### xs != [] of any items; comprehensions with any target -/
def rNeE (K : PySem.W.Frag) : R2 := fun x y H Q => ∃ a b xs, x = .ref a ∧ y = .ref b ∧ SqL K H a xs ∧ SqL K H b [] ∧ Q (.bl (!xs.isEmpty)) H
theorem op_neE {X : Cx} (hu : X.A.units < cLine) : OpR X (compareOp .NotEq) (rNeE X.K) := by
  intro pins s σ H x y v u Q I rx ry h
  obtain ⟨a, b, xs, rfl, rfl, h1, h2, q⟩ := h
  cases (show v = Value.ref a from rx)
  cases (show u = Value.ref b from ry)
  obtain ⟨its, r1, ⟨o1, n1, g1, c1, _, d1⟩, _⟩ := I.list h1
  obtain ⟨its2, r2, ⟨o2, n2, g2, c2, _, d2⟩, _⟩ := I.list h2
  cases r2
  show wpAny _ _ (richCompare .NotEq _ _) _ _ _
  cases r1 with
  | nil => exact SeqAt.RcNeAt.lists (e := fun _ => true) ⟨o1, g1, c1, n1, d1⟩ ⟨o2, g2, c2, n2, d2⟩ rfl hu (fun j h1 _ => absurd h1 (Nat.not_lt_zero j)) _ _ _ _ ⟨.bl false, H, I, rfl, q⟩
  | cons ra rb => exact SeqAt.RcNeAt.lists_lengths ⟨o1, g1, c1, n1, d1⟩ ⟨o2, g2, c2, n2, d2⟩ rfl hu _ _ _ _ ⟨.bl true, H, I, rfl, q⟩
section
variable {σ : L2.St} {H : Hp} {Q : VK} {te : TE} {K : PySem.W.Frag} {a b : Addr} {xs : List V}
theorem r_neE (h1 : SqL K H a xs) (h2 : SqL K H b []) (q : Q (.bl (!xs.isEmpty)) H) : rNeE K (.ref a) (.ref b) H Q := ⟨a, b, xs, rfl, rfl, h1, h2, q⟩
/-- [e for target in xs], e a value by a function of the item -/
theorem lc_mapG {g : TG} {vs : List Nat} (f : V → V) (hS : SqL K H a xs) (hz : xs.length ≤ 1000) (he : ∀ (x : V) (H' : Hp) (QQ : VK), x ∈ xs → Same H H' → QQ (f x) H' → g x (wipe σ vs) H' fun σ2 H2 => wipe σ2 vs = wipe σ vs ∧ te σ2 H2 QQ)
    (hq : ∀ D, H D = none → Q (.ref D) (upd H D (.lst (xs.map f)))) : lcGo (Itl K a) g tYes te vs σ Q H := by
  intro D hD
  refine lc_list (K := K) (a := a) (xs := xs) (fun i H' => H' = upd H D (.lst ((xs.take i).map f))) rfl (fun i H' _ e => by subst e; exact (same_new hD).seq hS) ?_ ?_
  · rintro i x H' hx rfl
    refine he x _ _ (List.mem_of_getElem? hx) (same_new hD) ⟨(xs.take i).map f, upd_same, ?_, ?_⟩
    · rw [List.length_map, List.length_take]
      exact small1000 (by omega)
    · rw [upd_upd, List.take_add_one, hx, List.map_append]
      rfl
  · rintro H' rfl
    rw [List.take_length]
    exact hq D hD
end
section
variable {σ : L2.St} {H : Hp} {Q : VK} {te : TE} {tt : TT} {K : PySem.W.Frag} {a : Addr} {xs : List V}
/-- [x for x in xs if test]: what passes the test -/
theorem lc_filt {n : Nat} (f : V → Bool) (hS : SqL K H a xs) (hz : xs.length ≤ 1000) (ht : ∀ (x : V) (H' : Hp) (QT : Bool → Hp → Prop), x ∈ xs → Same H H' → QT (f x) H' → tt ((wipe σ [n]).set n (some x)) H' QT)
    (he : ∀ (x : V) (H' : Hp) (QQ : VK), x ∈ xs → Same H H' → QQ x H' → te ((wipe σ [n]).set n (some x)) H' QQ) (hq : ∀ D, H D = none → Q (.ref D) (upd H D (.lst (xs.filter f)))) : lcGo (Itl K a) (gName n) tt te [n] σ Q H := by
  intro D hD
  refine lc_list (K := K) (a := a) (xs := xs) (fun i H' => H' = upd H D (.lst ((xs.take i).filter f))) rfl (fun i H' _ e => by subst e; exact (same_new hD).seq hS) ?_ ?_
  · rintro i x H' hx rfl
    have hx' := List.mem_of_getElem? hx
    refine ⟨wipe1, ht x _ _ hx' (same_new hD) ?_⟩
    cases hf : f x with
    | true =>
      refine he x _ _ hx' (same_new hD) ⟨(xs.take i).filter f, upd_same, ?_, ?_⟩
      · refine small1000 (Nat.le_trans (List.length_filter_le _ _) ?_)
        rw [List.length_take]
        omega
      · rw [upd_upd, List.take_add_one, hx, List.filter_append]
        show _ = upd H D (.lst (_ ++ List.filter f [x]))
        rw [List.filter_cons, if_pos hf]
        rfl
    | false =>
      show _ = _
      rw [List.take_add_one, hx, List.filter_append]
      show _ = upd H D (.lst (_ ++ List.filter f [x]))
      rw [List.filter_cons, if_neg (by rw [hf]; exact Bool.false_ne_true)]
      show _ = upd H D (.lst (_ ++ []))
      rw [List.append_nil]
  · rintro H' rfl
    rw [List.take_length]
    exact hq D hD
end
theorem sort1 {ns : List Int} {a : Int} (h : ns.Perm [a]) : ns = [a] := List.perm_singleton.mp h
theorem sort2 {ns : List Int} {a b : Int} (h : ns.Perm [a, b]) (hp : ns.Pairwise (· ≤ ·)) : ns = if b < a then [b, a] else [a, b] := by
  obtain ⟨x, y, rfl⟩ : ∃ x y, ns = [x, y] := by
    match ns, h.length_eq with
    | [x, y], _ => exact ⟨x, y, rfl⟩
  have hxy : x ≤ y := by
    have := List.rel_of_pairwise_cons hp (List.mem_singleton_self y)
    exact this
  have hx : x ∈ [a, b] := h.mem_iff.mp List.mem_cons_self
  simp only [List.mem_cons, List.mem_nil_iff, or_false] at hx
  rcases hx with rfl | rfl
  · have hy := List.perm_singleton.mp h.cons_inv
    cases hy
    rw [if_neg (by omega)]
  · have hy := List.perm_singleton.mp (h.trans (List.Perm.swap _ _ _)).cons_inv
    cases hy
    split
    · rfl
    · have : x = a := by omega
      rw [this]
section
variable {σ : L2.St} {H : Hp} {Q : VK} {te : TE} {tt : TT} {K : PySem.W.Frag} {a : Addr} {xs : List V}
/-- the same over a tuple -/
theorem lc_filtT {n : Nat} (f : V → Bool) (hS : SqT K H a xs) (hz : xs.length ≤ 1000) (ht : ∀ (x : V) (H' : Hp) (QT : Bool → Hp → Prop), x ∈ xs → Same H H' → QT (f x) H' → tt ((wipe σ [n]).set n (some x)) H' QT)
    (he : ∀ (x : V) (H' : Hp) (QQ : VK), x ∈ xs → Same H H' → QQ x H' → te ((wipe σ [n]).set n (some x)) H' QQ) (hq : ∀ D, H D = none → Q (.ref D) (upd H D (.lst (xs.filter f)))) : lcGo (Itt K a) (gName n) tt te [n] σ Q H := by
  intro D hD
  refine lc_tup (K := K) (a := a) (xs := xs) (fun i H' => H' = upd H D (.lst ((xs.take i).filter f))) rfl (fun i H' _ e => by subst e; exact same_tup (same_new hD) hS) ?_ ?_
  · rintro i x H' hx rfl
    have hx' := List.mem_of_getElem? hx
    refine ⟨wipe1, ht x _ _ hx' (same_new hD) ?_⟩
    cases hf : f x with
    | true =>
      refine he x _ _ hx' (same_new hD) ⟨(xs.take i).filter f, upd_same, ?_, ?_⟩
      · refine small1000 (Nat.le_trans (List.length_filter_le _ _) ?_)
        rw [List.length_take]
        omega
      · rw [upd_upd, List.take_add_one, hx, List.filter_append]
        show _ = upd H D (.lst (_ ++ List.filter f [x]))
        rw [List.filter_cons, if_pos hf]
        rfl
    | false =>
      show _ = _
      rw [List.take_add_one, hx, List.filter_append]
      show _ = upd H D (.lst (_ ++ List.filter f [x]))
      rw [List.filter_cons, if_neg (by rw [hf]; exact Bool.false_ne_true)]
      show _ = upd H D (.lst (_ ++ []))
      rw [List.append_nil]
  · rintro H' rfl
    rw [List.take_length]
    exact hq D hD
end
/-! ### constants of the top; binding by place and by keywords -/
theorem sqt_const {K : PySem.W.Frag} {H : Hp} {a : Addr} {od : Option Addr} {its : Array Value} {n : Nat} {sl : Array (Option Value)} {vs : List V} (h : K.lookup a = some ⟨.type "tuple", od, .seq its n, sl⟩) (r : Vals vs its.toList) (hl : vs.length ≤ 1000) : SqT K H a vs := by
  refine .inr ⟨_, its, n, h, rfl, rfl, ?_, r⟩
  have e : its.size = vs.length := (Array.length_toList (xs := its)).symm.trans r.length.symm
  rw [e]
  exact Nat.le_of_lt (small1000 hl)
theorem kb_mkN {K : PySem.W.Frag} {x qual : Str} {st : Stmt} {f : Addr} {fd : FuncData} {ps ks : List Str} {n : Nat} (F : Fun K x qual st f fd)
    (h : ∀ (kV doc pm : Value) (an : Option Addr) (cdv ct : Value) (us ws : List Value), us.length = n → ws.length = ks.length → bindArgs (PySem.W.fnOf x qual (defArgs st) (defBody st) (defScope st) .none kV doc pm an cdv ct) ⟨us, ks.zip ws⟩ = pure (ps.zip (us ++ ws))) :
    KBn K fd ps n ks (fun us ws => us ++ ws) (fun vs zs => vs ++ zs) := by
  obtain ⟨oc, od, kV, doc, pm, an, cdv, ct, osl, rfl, lk, hcd⟩ := F.ex
  exact ⟨fun s us ws _ l1 l2 => .of_eq (h kV doc pm an cdv ct us ws l1 l2), fun r1 r2 => r1.append r2⟩
theorem r_makeN {C : Addr} {n m : Nat} {sp : Sp} {gV : List V → List V → List V} {E : XK} {t tk : TA} {σ : L2.St} {H : Hp} {Q : VK} (h : t σ H fun vs H1 => tk σ H1 fun zs H2 => vs.length = n ∧ zs.length = m ∧ ∀ x dx, H2 x = none → H2 dx = none → dx ≠ x → sp (gV (.ref x :: vs) zs) (upd (upd H2 dx (.own x)) x (.ins C dx [])) (fun v H3 => v = .non ∧ Q (.ref x) H3) E) : tMakeN C n m sp gV E t tk σ H Q := h
theorem r_inT {K : PySem.W.Frag} {H : Hp} {Q : VK} {neg : Bool} {x : V} {p : Addr} {xs : List V} (h : SqT K H p xs) (h1 : flatV x = true) (h2 : xs.all flatV = true) (q : Q (.bl (if neg then !inV x xs else inV x xs)) H) : rIn K neg x (.ref p) H Q := ⟨p, xs, rfl, .inr h, h1, h2, q⟩
theorem r_inL {K : PySem.W.Frag} {H : Hp} {Q : VK} {neg : Bool} {x : V} {p : Addr} {xs : List V} (h : SqL K H p xs) (h1 : flatV x = true) (h2 : xs.all flatV = true) (q : Q (.bl (if neg then !inV x xs else inV x xs)) H) : rIn K neg x (.ref p) H Q := ⟨p, xs, rfl, .inl h, h1, h2, q⟩
/-! ### two lists, place by place -/
structure All2 {α β : Type} (P : α → β → Prop) (as : List α) (bs : List β) : Prop where
  len : as.length = bs.length
  at_ : ∀ (j : Nat) (a : α) (b : β), as[j]? = some a → bs[j]? = some b → P a b
theorem All2.nil {α β : Type} {P : α → β → Prop} : All2 P ([] : List α) ([] : List β) := ⟨rfl, fun j a b h => by cases h⟩
theorem All2.imp {α β : Type} {P Q : α → β → Prop} {as : List α} {bs : List β} (h : All2 P as bs) (f : ∀ a b, P a b → Q a b) : All2 Q as bs := ⟨h.len, fun j a b h1 h2 => f a b (h.at_ j a b h1 h2)⟩
theorem All2.snoc {α β : Type} {P : α → β → Prop} {as : List α} {bs : List β} {a : α} {b : β} (h : All2 P as bs) (p : P a b) : All2 P (as ++ [a]) (bs ++ [b]) := by
  refine ⟨by rw [List.length_append, List.length_append, h.len]; rfl, fun j x y h1 h2 => ?_⟩
  rcases Nat.lt_or_ge j as.length with hj | hj
  · rw [List.getElem?_append_left hj] at h1
    rw [List.getElem?_append_left (by rw [← h.len]; exact hj)] at h2
    exact h.at_ j x y h1 h2
  · rw [List.getElem?_append_right hj] at h1
    rw [List.getElem?_append_right (by rw [← h.len]; exact hj), ← h.len] at h2
    cases hz : j - as.length with
    | zero =>
      rw [hz] at h1 h2
      cases h1
      cases h2
      exact p
    | succ n => rw [hz] at h1; cases h1
theorem All2.get {α β : Type} {P : α → β → Prop} {as : List α} {bs : List β} (h : All2 P as bs) {j : Nat} {a : α} (ha : as[j]? = some a) : ∃ b, bs[j]? = some b ∧ P a b := by
  have hj : j < bs.length := by rw [← h.len]; exact (List.getElem?_eq_some_iff.mp ha).1
  exact ⟨bs[j], List.getElem?_eq_getElem hj, h.at_ j a _ ha (List.getElem?_eq_getElem hj)⟩
theorem All2.map {α β : Type} {γ : Type} {P : α → β → Prop} {as : List α} {bs : List β} {f : α → γ} {k : β → γ} (h : All2 P as bs) (e : ∀ a b, P a b → f a = k b) : as.map f = bs.map k := by
  apply List.ext_getElem?
  intro j
  rw [List.getElem?_map, List.getElem?_map]
  cases ha : as[j]? with
  | none =>
    have : bs[j]? = none := by
      rw [List.getElem?_eq_none_iff] at ha ⊢
      rw [← h.len]
      exact ha
    rw [this]
    rfl
  | some a =>
    obtain ⟨b, hb, p⟩ := h.get ha
    rw [hb]
    exact congrArg some (e a b p)
/-- a field of the instance at an address -/
def fldV (H : Hp) (f : Str) : V → V
  | .ref u => match H u with
    | some (.ins _ _ fs) => (fs.lookup f).getD .non
    | _ => .non
  | _ => .non
theorem fld_at {H : Hp} {f : Str} {u C dx : Addr} {fs : List (Str × V)} {v : V} (h : H u = some (.ins C dx fs)) (l : fs.lookup f = some v) : fldV H f (.ref u) = v := by
  simp only [fldV, h]
  rw [l]
  rfl
section
variable {σ : L2.St} {H : Hp} {Q : VK} {K : PySem.W.Frag} {tr : TA} {te : TE} {QA : List V → Hp → Prop}
theorem r_star (h : te σ H fun x H1 => ∃ p xs, x = V.ref p ∧ (SqT K H1 p xs ∨ SqL K H1 p xs) ∧ tr σ H1 fun ys H2 => QA (xs ++ ys) H2) : StX.tStar K te tr σ H QA := h
theorem r_stT {a : Addr} {xs : List V} {F : List V → Prop} (h1 : SqT K H a xs) (h : F xs) : ∃ p xs, V.ref a = .ref p ∧ (SqT K H p xs ∨ SqL K H p xs) ∧ F xs := ⟨a, xs, rfl, .inl h1, h⟩
theorem r_stL {a : Addr} {xs : List V} {F : List V → Prop} (h1 : SqL K H a xs) (h : F xs) : ∃ p xs, V.ref a = .ref p ∧ (SqT K H p xs ∨ SqL K H p xs) ∧ F xs := ⟨a, xs, rfl, .inr h1, h⟩
end
/-! ### xs[i] op= e of lists, at places from the front -/
section
variable {X : Cx}
def rIxN (K : PySem.W.Frag) : R2 := fun x y H Q => ∃ p xs i v, x = .ref p ∧ y = .int i ∧ 0 ≤ i ∧ SqL K H p xs ∧ atI xs i = some v ∧ Q v H
theorem get_list : PGet X (rIxN X.K) := by
  intro pins s σ H x y v u Q I rx ry h
  obtain ⟨p, xs, i, z, rfl, rfl, h0, hq, he, q⟩ := h
  cases rx
  obtain ⟨t, rfl⟩ := ry
  obtain ⟨its, r, pl, hz⟩ := I.list hq
  obtain ⟨j, h1, h2, h3, h4, h5⟩ := atI_get he
  obtain ⟨w, ew, rw'⟩ := r.get h2
  have hl := r.length
  have hn := line63
  have hj : i.toNat = j := by
    rw [seqIndex_of h0 h5] at h1
    exact Option.some.inj h1
  exact getItem_listL pl.isList h0 (by omega) (by rw [hj]; simpa using ew) ⟨z, H, I, rw', q⟩
theorem r_ixN {K : PySem.W.Frag} {H : Hp} {Q : VK} {a : Addr} {xs : List V} {i : Int} {v : V} (h0 : 0 ≤ i) (hS : SqL K H a xs) (hv : atI xs i = some v) (q : Q v H) : rIxN K (.ref a) (.int i) H Q := ⟨a, xs, i, v, rfl, rfl, h0, hS, hv, q⟩
end
theorem r_augS {to ti te : TE} {tget : V → V → Hp → VK → Prop} {tip : TIp} {tset : TSet} {D : Ends} {σ : L2.St} {H : Hp} (h : to σ H fun o H1 => ti σ H1 fun i H2 => tget o i H2 fun x H3 => te σ H3 fun y H4 => tip x y H4 fun z H5 => tset o i z H5 fun H6 => D.nx σ H6) : tAugS to ti te tget tip tset D σ H := h
/-! ### a test whose answer is told first -/
def tDet (tt : TT) : TT := fun σ H QB => ∃ b, (∀ QB' : Bool → Hp → Prop, QB' b H → tt σ H QB') ∧ QB b H
theorem pt_det {X : Cx} {e : Expr} {tt : TT} (h : PT X e tt) : PT X e (tDet tt) := ⟨fun pins s σ H Q I ⟨_, f, q⟩ => h.run pins s σ H Q I (f Q q)⟩
theorem r_det {tt : TT} {σ : L2.St} {H : Hp} {QB : Bool → Hp → Prop} (b : Bool) (f : ∀ QB' : Bool → Hp → Prop, QB' b H → tt σ H QB') (q : QB b H) : tDet tt σ H QB := ⟨b, f, q⟩
def top (i : Nat) : Stmt := PySem.Challenge.pw_windowrows_k92_whole_matchings_against_a.main.body.getD i (.Pass ⟨0, 0, 0, 0⟩)
abbrev s_Matching___init__ : Stmt := inClass (top 1) 0
theorem sc_Matching___init__ : FnScope ["self", "places", "total", "member_prices", "place_prices"] ["self", "places", "total", "member_prices", "place_prices"] (defScope s_Matching___init__) := ⟨rfl, rfl, rfl, by decide +kernel, rfl, by decide +kernel, by decide +kernel⟩
abbrev s_Search___init__ : Stmt := inClass (top 2) 0
theorem sc_Search___init__ : FnScope ["self", "weights"] ["self", "weights"] (defScope s_Search___init__) := ⟨rfl, rfl, rfl, by decide +kernel, rfl, by decide +kernel, by decide +kernel⟩
abbrev s_Search_slack : Stmt := inClass (top 2) 1
theorem sc_Search_slack : FnScope ["self", "member", "place", "cost"] ["self", "member", "place"] (defScope s_Search_slack) := ⟨rfl, rfl, rfl, by decide +kernel, rfl, by decide +kernel, by decide +kernel⟩
abbrev s_Search_shift : Stmt := inClass (top 2) 2
theorem sc_Search_shift : FnScope ["self", "used", "least", "delta", "place"] ["self", "used", "least", "delta"] (defScope s_Search_shift) := ⟨rfl, rfl, rfl, by decide +kernel, rfl, by decide +kernel, by decide +kernel⟩
abbrev s_Search_add_member : Stmt := inClass (top 2) 3
theorem sc_Search_add_member : FnScope ["self", "member", "least", "before", "used", "place", "best", "spot", "slack"] ["self", "member"] (defScope s_Search_add_member) := ⟨rfl, rfl, rfl, by decide +kernel, rfl, by decide +kernel, by decide +kernel⟩
abbrev s_best_matching : Stmt := top 3
theorem sc_best_matching : FnScope ["weights", "search", "member", "places", "place", "total", "member_prices", "place_prices", "row", "cost"] ["weights"] (defScope s_best_matching) := ⟨rfl, rfl, rfl, by decide +kernel, rfl, by decide +kernel, by decide +kernel⟩
abbrev s__law_begin : Stmt := top 5
theorem sc__law_begin : FnScope ["_law_script", "_law_cells", "_law_cell"] ["_law_script"] (defScope s__law_begin) := ⟨rfl, rfl, rfl, by decide +kernel, rfl, by decide +kernel, by decide +kernel⟩
abbrev s__law_draw : Stmt := top 6
theorem sc__law_draw : FnScope ["_law_draws", "_law_many", "_law_turn", "_law_at", "_law_cell", "_law_got", "_law_first", "_law_salt", "_law_second", "_law_mixed", "_law_third"] ["_law_draws", "_law_many"] (defScope s__law_draw) := ⟨rfl, rfl, rfl, by decide +kernel, rfl, by decide +kernel, by decide +kernel⟩
abbrev s__law_weights : Stmt := top 7
theorem sc__law_weights : FnScope ["_law_draws", "_law_many", "_law_wide", "_law_found", "_law_k", "_law_j"] ["_law_draws"] (defScope s__law_weights) := ⟨rfl, rfl, rfl, by decide +kernel, rfl, by decide +kernel, by decide +kernel⟩
abbrev s__law_best : Stmt := top 8
theorem sc__law_best : FnScope ["_law_weights_here", "_law_left", "_law_met", "_law_row", "_law_sums", "_law_place", "_law_others", "_law_one"] ["_law_weights_here", "_law_left", "_law_met"] (defScope s__law_best) := ⟨rfl, rfl, rfl, by decide +kernel, rfl, by decide +kernel, by decide +kernel⟩
abbrev s__law_changed : Stmt := top 9
theorem sc__law_changed : FnScope ["_law_draws", "_law_weights_here", "_law_many", "_law_at", "_law_more", "_law_row", "_law_column", "_law_one", "_law_turned_round", "_law_across", "_law_k"] ["_law_draws", "_law_weights_here"] (defScope s__law_changed) := ⟨rfl, rfl, rfl, by decide +kernel, rfl, by decide +kernel, by decide +kernel⟩
abbrev s_law : Stmt := top 10
theorem sc_law : FnScope ["_law_script", "_law_draws", "_law_turn", "_law_weights_here", "_law_due", "_law_other", "_law_more", "_law_row"] ["_law_script"] (defScope s_law) := ⟨rfl, rfl, rfl, by decide +kernel, rfl, by decide +kernel, by decide +kernel⟩
structure Txt (K : PySem.W.Frag) (mg : Str → Option Value) where
  f_Matching___init__ : Addr
  d_Matching___init__ : FuncData
  F_Matching___init__ : Fun K "__init__" "Matching.__init__" s_Matching___init__ f_Matching___init__ d_Matching___init__
  b_Matching___init__ : Binds K d_Matching___init__ ["self", "places", "total", "member_prices", "place_prices"] []
  f_Search___init__ : Addr
  d_Search___init__ : FuncData
  F_Search___init__ : Fun K "__init__" "Search.__init__" s_Search___init__ f_Search___init__ d_Search___init__
  b_Search___init__ : Binds K d_Search___init__ ["self", "weights"] []
  f_Search_slack : Addr
  d_Search_slack : FuncData
  F_Search_slack : Fun K "slack" "Search.slack" s_Search_slack f_Search_slack d_Search_slack
  b_Search_slack : Binds K d_Search_slack ["self", "member", "place"] []
  f_Search_shift : Addr
  d_Search_shift : FuncData
  F_Search_shift : Fun K "shift" "Search.shift" s_Search_shift f_Search_shift d_Search_shift
  b_Search_shift : Binds K d_Search_shift ["self", "used", "least", "delta"] []
  f_Search_add_member : Addr
  d_Search_add_member : FuncData
  F_Search_add_member : Fun K "add_member" "Search.add_member" s_Search_add_member f_Search_add_member d_Search_add_member
  b_Search_add_member : Binds K d_Search_add_member ["self", "member"] []
  f_best_matching : Addr
  d_best_matching : FuncData
  F_best_matching : Fun K "best_matching" "best_matching" s_best_matching f_best_matching d_best_matching
  b_best_matching : Binds K d_best_matching ["weights"] []
  g_best_matching : mg "best_matching" = some (.ref f_best_matching)
  f__law_begin : Addr
  d__law_begin : FuncData
  F__law_begin : Fun K "_law_begin" "_law_begin" s__law_begin f__law_begin d__law_begin
  b__law_begin : Binds K d__law_begin ["_law_script"] []
  g__law_begin : mg "_law_begin" = some (.ref f__law_begin)
  f__law_draw : Addr
  d__law_draw : FuncData
  F__law_draw : Fun K "_law_draw" "_law_draw" s__law_draw f__law_draw d__law_draw
  b__law_draw : Binds K d__law_draw ["_law_draws", "_law_many"] []
  g__law_draw : mg "_law_draw" = some (.ref f__law_draw)
  f__law_weights : Addr
  d__law_weights : FuncData
  F__law_weights : Fun K "_law_weights" "_law_weights" s__law_weights f__law_weights d__law_weights
  b__law_weights : Binds K d__law_weights ["_law_draws"] []
  g__law_weights : mg "_law_weights" = some (.ref f__law_weights)
  f__law_best : Addr
  d__law_best : FuncData
  F__law_best : Fun K "_law_best" "_law_best" s__law_best f__law_best d__law_best
  b__law_best : Binds K d__law_best ["_law_weights_here", "_law_left", "_law_met"] []
  g__law_best : mg "_law_best" = some (.ref f__law_best)
  f__law_changed : Addr
  d__law_changed : FuncData
  F__law_changed : Fun K "_law_changed" "_law_changed" s__law_changed f__law_changed d__law_changed
  b__law_changed : Binds K d__law_changed ["_law_draws", "_law_weights_here"] []
  g__law_changed : mg "_law_changed" = some (.ref f__law_changed)
  f_law : Addr
  d_law : FuncData
  F_law : Fun K "law" "law" s_law f_law d_law
  b_law : Binds K d_law ["_law_script"] []
  g_law : mg "law" = some (.ref f_law)
  z_abs : mg "abs" = none
  z_enumerate : mg "enumerate" = none
  z_int : mg "int" = none
  z_len : mg "len" = none
  z_list : mg "list" = none
  z_range : mg "range" = none
  z_sorted : mg "sorted" = none
  z_sum : mg "sum" = none
  z_tuple : mg "tuple" = none
  C_Matching : Addr
  C_Search : Addr
  g_Matching : mg "Matching" = some (.ref C_Matching)
  c_Matching : Cls K C_Matching
  m_Matching : Mk K C_Matching f_Matching___init__
  nf_Matching_places : NoAttr K C_Matching "places"
  nf_Matching_total : NoAttr K C_Matching "total"
  nf_Matching_member_prices : NoAttr K C_Matching "member_prices"
  nf_Matching_place_prices : NoAttr K C_Matching "place_prices"
  ca_Matching : PySem.W.findIn K (.ref C_Matching) "__class__" = some (some (.builtin "object.__class__"))
  cn_Matching : PySem.W.specialIn K (.builtin "object.__class__") "__get__" = some (some (.builtin "getset_descriptor.__get__"))
  ct_Matching : PySem.W.takesIn K (.builtin "object.__class__") = some true
  cm_Matching : PySem.W.mroIn K C_Matching (.type "object") = some true
  g_Search : mg "Search" = some (.ref C_Search)
  c_Search : Cls K C_Search
  m_Search : Mk K C_Search f_Search___init__
  nf_Search_weights : NoAttr K C_Search "weights"
  nf_Search_many : NoAttr K C_Search "many"
  nf_Search_member_costs : NoAttr K C_Search "member_costs"
  nf_Search_place_costs : NoAttr K C_Search "place_costs"
  nf_Search_holders : NoAttr K C_Search "holders"
  mt_Search_slack : Meth K C_Search "slack" f_Search_slack
  mt_Search_shift : Meth K C_Search "shift" f_Search_shift
  mt_Search_add_member : Meth K C_Search "add_member" f_Search_add_member
  ca_Search : PySem.W.findIn K (.ref C_Search) "__class__" = some (some (.builtin "object.__class__"))
  cn_Search : PySem.W.specialIn K (.builtin "object.__class__") "__get__" = some (some (.builtin "getset_descriptor.__get__"))
  ct_Search : PySem.W.takesIn K (.builtin "object.__class__") = some true
  cm_Search : PySem.W.mroIn K C_Search (.type "object") = some true
/-! ### the matching by prices: a pure form of the search -/
namespace Hg
def fset {α : Type} (f : Nat → α) (i : Nat) (x : α) : Nat → α := fun k => if k = i then x else f k
theorem fset_same {α : Type} {f : Nat → α} {i : Nat} {x : α} : fset f i x i = x := if_pos rfl
theorem fset_ne {α : Type} {f : Nat → α} {i k : Nat} {x : α} (h : k ≠ i) : fset f i x k = f k := if_neg h
def sl (c : Nat → Nat → Int) (u v : Nat → Int) (i j : Nat) : Int := c i j - u i - v j
structure Sc where
  L : Nat → Option Int
  B : Nat → Nat
  best : Nat
def ltO : Option Int → Option Int → Bool
  | some a, some b => decide (a < b)
  | _, _ => false
def better (s : Int) : Option Int → Bool
  | none => true
  | some l => decide (s < l)
def scMid (s : Nat → Int) (pl : Nat) (S : Sc) (j : Nat) : Sc := if better (s j) (S.L j) = true then ⟨fset S.L j (some (s j)), fset S.B j pl, S.best⟩ else S
def scEnd (S : Sc) (j : Nat) : Sc := if S.best = 0 ∨ ltO (S.L j) (S.L S.best) = true then ⟨S.L, S.B, j⟩ else S
def scStep (us : Nat → Bool) (s : Nat → Int) (pl : Nat) (S : Sc) (j : Nat) : Sc := if us j = true then S else scEnd (scMid s pl S j) j
def hScan (us : Nat → Bool) (s : Nat → Int) (pl : Nat) (L : Nat → Option Int) (B : Nat → Nat) : Nat → Sc
  | 0 => ⟨L, B, 0⟩
  | k + 1 => scStep us s pl (hScan us s pl L B k) (k + 1)
structure ScOk (us : Nat → Bool) (s : Nat → Int) (pl : Nat) (L : Nat → Option Int) (B : Nat → Nat) (k : Nat) (S : Sc) : Prop where
  out : ∀ j, (j = 0 ∨ k < j ∨ us j = true) → S.L j = L j ∧ S.B j = B j
  in_ : ∀ j, 1 ≤ j → j ≤ k → us j = false → ∃ l, S.L j = some l ∧ l ≤ s j ∧ (∀ l0, L j = some l0 → l ≤ l0) ∧ ((l = s j ∧ S.B j = pl) ∨ (L j = some l ∧ S.B j = B j))
  best : (S.best = 0 ∧ ∀ j, 1 ≤ j → j ≤ k → us j = true) ∨ (1 ≤ S.best ∧ S.best ≤ k ∧ us S.best = false ∧ ∀ l j l', S.L S.best = some l → 1 ≤ j → j ≤ k → us j = false → S.L j = some l' → l ≤ l')
theorem scan_ok (us : Nat → Bool) (s : Nat → Int) (pl : Nat) (L : Nat → Option Int) (B : Nat → Nat) : ∀ k, ScOk us s pl L B k (hScan us s pl L B k)
  | 0 => ⟨fun j _ => ⟨rfl, rfl⟩, fun j h1 h2 => absurd h2 (by omega), .inl ⟨rfl, fun j h1 h2 => absurd h2 (by omega)⟩⟩
  | k + 1 => by
    have ih := scan_ok us s pl L B k
    show ScOk us s pl L B (k + 1) (scStep us s pl (hScan us s pl L B k) (k + 1))
    generalize hScan us s pl L B k = S at ih
    unfold scStep
    by_cases hu : us (k + 1) = true
    · rw [if_pos hu]
      refine ⟨fun j h => ?_, fun j h1 h2 h3 => ?_, ?_⟩
      · by_cases e : j = k + 1
        · exact ih.out j (.inr (.inl (by omega)))
        · rcases h with h | h | h
          · exact ih.out j (.inl h)
          · exact ih.out j (.inr (.inl (by omega)))
          · exact ih.out j (.inr (.inr h))
      · have : j ≠ k + 1 := fun e => by rw [e, hu] at h3; cases h3
        exact ih.in_ j h1 (by omega) h3
      · rcases ih.best with ⟨h1, h2⟩ | ⟨h1, h2, h3, h4⟩
        · refine .inl ⟨h1, fun j a b => ?_⟩
          by_cases e : j = k + 1
          · rw [e]; exact hu
          · exact h2 j a (by omega)
        · refine .inr ⟨h1, by omega, h3, fun l j l' a1 a2 a3 a4 a5 => ?_⟩
          have : j ≠ k + 1 := fun e => by rw [e, hu] at a4; cases a4
          exact h4 l j l' a1 a2 (by omega) a4 a5
    · rw [if_neg hu]
      have hu' : us (k + 1) = false := Bool.eq_false_iff.mpr hu
      have o := ih.out (k + 1) (.inr (.inl (by omega)))
      -- the middle
      obtain ⟨M, hM⟩ : ∃ M, M = scMid s pl S (k + 1) := ⟨_, rfl⟩
      have mOut : ∀ j, j ≠ k + 1 → M.L j = S.L j ∧ M.B j = S.B j := fun j hj => by
        rw [hM]; unfold scMid
        split
        · exact ⟨fset_ne hj, fset_ne hj⟩
        · exact ⟨rfl, rfl⟩
      have mBest : M.best = S.best := by
        rw [hM]; unfold scMid
        split <;> rfl
      have mIn : ∃ l, M.L (k + 1) = some l ∧ l ≤ s (k + 1) ∧ (∀ l0, L (k + 1) = some l0 → l ≤ l0) ∧ ((l = s (k + 1) ∧ M.B (k + 1) = pl) ∨ (L (k + 1) = some l ∧ M.B (k + 1) = B (k + 1))) := by
        rw [hM]; unfold scMid
        cases hl : S.L (k + 1) with
        | none =>
          rw [if_pos (show better (s (k + 1)) none = true from rfl)]
          exact ⟨_, fset_same, Int.le_refl _, fun l0 h => (by rw [← o.1, hl] at h; cases h), .inl ⟨rfl, fset_same⟩⟩
        | some l1 =>
          by_cases hb : s (k + 1) < l1
          · rw [if_pos (show better (s (k + 1)) (some l1) = true from decide_eq_true hb)]
            exact ⟨_, fset_same, Int.le_refl _, fun l0 h => (by rw [← o.1, hl] at h; cases h; omega), .inl ⟨rfl, fset_same⟩⟩
          · rw [if_neg (show ¬ better (s (k + 1)) (some l1) = true from fun z => hb (of_decide_eq_true z))]
            exact ⟨l1, hl, by omega, fun l0 h => (by rw [← o.1, hl] at h; cases h; exact Int.le_refl _), .inr ⟨by rw [← o.1]; exact hl, o.2⟩⟩
      rw [← hM]
      obtain ⟨N, hN⟩ : ∃ N, N = scEnd M (k + 1) := ⟨_, rfl⟩
      have nL : N.L = M.L ∧ N.B = M.B := by
        rw [hN]; unfold scEnd
        split <;> exact ⟨rfl, rfl⟩
      rw [← hN]
      refine ⟨fun j h => ?_, fun j h1 h2 h3 => ?_, ?_⟩
      · have hj : j ≠ k + 1 := fun e => by
          rcases h with h | h | h
          · omega
          · omega
          · rw [e] at h; exact hu h
        rw [nL.1, nL.2, (mOut j hj).1, (mOut j hj).2]
        exact ih.out j (by rcases h with h | h | h; exact .inl h; exact .inr (.inl (by omega)); exact .inr (.inr h))
      · rw [nL.1, nL.2]
        by_cases hj : j = k + 1
        · rw [hj]; exact mIn
        · rw [(mOut j hj).1, (mOut j hj).2]
          exact ih.in_ j h1 (by omega) h3
      · right
        obtain ⟨l, hl, _⟩ := mIn
        rcases ih.best with ⟨h1, h2⟩ | ⟨h1, h2, h3, h4⟩
        · have e : N.best = k + 1 := by
            rw [hN]; unfold scEnd
            rw [if_pos (.inl (mBest.trans h1))]
          rw [e]
          refine ⟨by omega, by omega, hu', fun l1 j l' a1 a2 a3 a4 a5 => ?_⟩
          by_cases hj : j = k + 1
          · rw [hj, a1] at a5; cases a5; exact Int.le_refl _
          · have := h2 j a2 (by omega)
            rw [this] at a4; cases a4
        · obtain ⟨lb, hlb, _⟩ := ih.in_ S.best h1 h2 h3
          have hbne : S.best ≠ k + 1 := by omega
          have mb : M.L M.best = some lb := by rw [mBest, (mOut _ hbne).1]; exact hlb
          by_cases hc : l < lb
          · have e : N.best = k + 1 := by
              rw [hN]; unfold scEnd
              rw [if_pos (.inr (by rw [hl, mb]; exact decide_eq_true hc))]
            rw [e, nL.1]
            refine ⟨by omega, by omega, hu', fun l1 j l' a1 a2 a3 a4 a5 => ?_⟩
            rw [hl] at a1; cases a1
            by_cases hj : j = k + 1
            · rw [hj, hl] at a5; cases a5; exact Int.le_refl _
            · rw [(mOut j hj).1] at a5
              have := h4 lb j l' hlb a2 (by omega) a4 a5
              omega
          · have e : N.best = S.best := by
              rw [hN]; unfold scEnd
              rw [if_neg (by
                rintro (z | z)
                · rw [mBest] at z; omega
                · rw [hl, mb] at z; exact hc (of_decide_eq_true z))]
              exact mBest
            rw [e, nL.1]
            refine ⟨h1, by omega, h3, fun l1 j l' a1 a2 a3 a4 a5 => ?_⟩
            rw [(mOut _ hbne).1, hlb] at a1; cases a1
            by_cases hj : j = k + 1
            · rw [hj, hl] at a5; cases a5; omega
            · rw [(mOut j hj).1] at a5
              exact h4 lb j l' hlb a2 (by omega) a4 a5
def shU (us : Nat → Bool) (p : Nat → Nat) (d : Int) (u : Nat → Int) : Nat → Nat → Int
  | 0 => u
  | k + 1 => if us k = true then fset (shU us p d u k) (p k) (shU us p d u k (p k) + d) else shU us p d u k
theorem shU_out {us : Nat → Bool} {p : Nat → Nat} {d : Int} {u : Nat → Int} {i : Nat} : ∀ {k : Nat}, (∀ q, q < k → us q = true → p q ≠ i) → shU us p d u k i = u i
  | 0, _ => rfl
  | k + 1, h => by
    have ih := shU_out (us := us) (p := p) (d := d) (u := u) (i := i) (k := k) fun q hq => h q (by omega)
    unfold shU
    split
    · next hu => rw [fset_ne (fun e => h k (by omega) hu e.symm)]; exact ih
    · exact ih
theorem shU_in {us : Nat → Bool} {p : Nat → Nat} {d : Int} {u : Nat → Int} : ∀ {k : Nat}, (∀ a b, a < k → b < k → us a = true → us b = true → p a = p b → a = b) → ∀ q, q < k → us q = true → shU us p d u k (p q) = u (p q) + d
  | 0, _, q, hq, _ => absurd hq (by omega)
  | k + 1, h, q, hq, hu => by
    have ih := shU_in (us := us) (p := p) (d := d) (u := u) (k := k) fun a b ha hb => h a b (by omega) (by omega)
    unfold shU
    by_cases e : q = k
    · subst e
      rw [if_pos hu, fset_same, shU_out fun q' hq' hu' z => by
        have := h q' q (by omega) (by omega) hu' hu z
        omega]
    · have hq : q < k := by omega
      split
      · next hk => rw [fset_ne (fun z => e (h q k (by omega) (by omega) hu hk z))]; exact ih q hq hu
      · exact ih q hq hu
def shV (us : Nat → Bool) (d : Int) (v : Nat → Int) : Nat → Int := fun q => if us q = true then v q - d else v q
def shL (us : Nat → Bool) (d : Int) (L : Nat → Option Int) : Nat → Option Int := fun q => if us q = true then L q else (L q).map (· - d)
structure HSt where
  u : Nat → Int
  v : Nat → Int
  L : Nat → Option Int
  B : Nat → Nat
  us : Nat → Bool
  pl : Nat
def hMark (t : HSt) : Nat → Bool := fset t.us t.pl true
def stScan (n : Nat) (c : Nat → Nat → Int) (p : Nat → Nat) (t : HSt) : Sc := hScan (hMark t) (sl c t.u t.v (p t.pl)) t.pl t.L t.B n
def stD (S : Sc) : Int := (S.L S.best).getD 0
def hStep (n : Nat) (c : Nat → Nat → Int) (p : Nat → Nat) (t : HSt) : HSt :=
  ⟨shU (hMark t) p (stD (stScan n c p t)) t.u (n + 1), shV (hMark t) (stD (stScan n c p t)) t.v, shL (hMark t) (stD (stScan n c p t)) (stScan n c p t).L, (stScan n c p t).B, hMark t, (stScan n c p t).best⟩
def HChain (B : Nat → Nat) (z : Nat → Nat → Prop) : List Nat → Prop
  | [] => True
  | a :: tl => (a ≠ 0 → B a ∈ tl ∧ z (B a) a) ∧ HChain B z tl
theorem HChain.imp {B B' : Nat → Nat} {z z' : Nat → Nat → Prop} : ∀ {h : List Nat}, HChain B z h → (∀ a ∈ h, B' a = B a) → (∀ a ∈ h, ∀ b ∈ h, z b a → z' b a) → HChain B' z' h
  | [], _, _, _ => trivial
  | a :: tl, ⟨h1, h2⟩, e, f => ⟨fun ha => by
      obtain ⟨m, y⟩ := h1 ha
      rw [e a List.mem_cons_self]
      exact ⟨m, f a List.mem_cons_self _ (List.mem_cons_of_mem _ m) y⟩, HChain.imp h2 (fun a ha => e a (List.mem_cons_of_mem _ ha)) fun a ha b hb => f a (List.mem_cons_of_mem _ ha) b (List.mem_cons_of_mem _ hb)⟩
/-- the holders while member m looks for its place -/
structure PIn (n m : Nat) (p : Nat → Nat) : Prop where
  p0 : p 0 = m
  m1 : 1 ≤ m
  lt : ∀ q, 1 ≤ q → q ≤ n → p q < m
  inj : ∀ a b, a ≤ n → b ≤ n → p a = p b → p a ≠ 0 → a = b
  free : ∃ f, 1 ≤ f ∧ f ≤ n ∧ p f = 0
structure HIn (n m : Nat) (c : Nat → Nat → Int) (p : Nat → Nat) (h : List Nat) (t : HSt) : Prop where
  nd : (t.pl :: h).Nodup
  le : ∀ q ∈ t.pl :: h, q ≤ n
  us : ∀ q, t.us q = true ↔ q ∈ h
  held : ∀ q ∈ h, p q ≠ 0
  first : h = [] → t.pl = 0
  zero : h ≠ [] → 0 ∈ h
  nn : h = [] → ∀ j, 1 ≤ j → j ≤ n → t.L j = none
  sm : h ≠ [] → ∀ j, 1 ≤ j → j ≤ n → j ∉ h → ∃ l, t.L j = some l ∧ 0 ≤ l ∧ t.B j ∈ h ∧ l = sl c t.u t.v (p (t.B j)) j ∧ ∀ q ∈ h, l ≤ sl c t.u t.v (p q) j
  plz : h ≠ [] → t.L t.pl = some 0
  chain : HChain t.B (fun b a => sl c t.u t.v (p b) a = 0) h
  feas : ∀ i, 1 ≤ i → i < m → ∀ j, 1 ≤ j → j ≤ n → 0 ≤ sl c t.u t.v i j
  feasM : h ≠ [] → ∀ j, 1 ≤ j → j ≤ n → 0 ≤ sl c t.u t.v m j
  tight : ∀ q, 1 ≤ q → q ≤ n → p q ≠ 0 → sl c t.u t.v (p q) q = 0
theorem step_in {n m : Nat} {c : Nat → Nat → Int} {p : Nat → Nat} {h : List Nat} {t : HSt} (P : PIn n m p) (I : HIn n m c p h t) (hp : p t.pl ≠ 0) : HIn n m c p (t.pl :: h) (hStep n c p t) ∧ (hStep n c p t).pl ≠ 0 := by
  have SO := scan_ok (hMark t) (sl c t.u t.v (p t.pl)) t.pl t.L t.B n
  have usm : ∀ q, hMark t q = true ↔ q ∈ t.pl :: h := fun q => by
    unfold hMark
    by_cases e : q = t.pl
    · rw [e, fset_same]; exact ⟨fun _ => List.mem_cons_self, fun _ => rfl⟩
    · rw [fset_ne e, I.us q, List.mem_cons]
      exact ⟨.inr, fun z => z.resolve_left e⟩
  have usf : ∀ q, q ∉ t.pl :: h → hMark t q = false := fun q z => Bool.eq_false_iff.mpr fun y => z ((usm q).mp y)
  have heldA : ∀ q ∈ t.pl :: h, p q ≠ 0 := fun q hq => by
    rcases List.mem_cons.mp hq with e | e
    · rw [e]; exact hp
    · exact I.held q e
  obtain ⟨f, f1, fn, fp⟩ := P.free
  have fno : f ∉ t.pl :: h := fun z => heldA f z fp
  have zeroA : 0 ∈ t.pl :: h := by
    by_cases e : h = []
    · rw [I.first e]; exact List.mem_cons_self
    · exact List.mem_cons_of_mem _ (I.zero e)
  unfold hStep stScan
  generalize hS : hScan (hMark t) (sl c t.u t.v (p t.pl)) t.pl t.L t.B n = S at SO
  -- the best spot
  rcases SO.best with ⟨_, z⟩ | ⟨b1, bn, bu, bmin⟩
  · have := z f f1 fn
    rw [usf f fno] at this
    cases this
  have bno : S.best ∉ t.pl :: h := fun z => by rw [(usm _).mpr z] at bu; cases bu
  -- what the hScan hFound, by the old prices
  have hFound : ∀ j, 1 ≤ j → j ≤ n → j ∉ t.pl :: h → ∃ l, S.L j = .some l ∧ S.B j ∈ t.pl :: h ∧ l = sl c t.u t.v (p (S.B j)) j ∧ ∀ q ∈ t.pl :: h, l ≤ sl c t.u t.v (p q) j := by
    intro j j1 jn jo
    obtain ⟨l, e1, e2, e3, e4⟩ := SO.in_ j j1 jn (usf j jo)
    have jh : j ∉ h := fun z => jo (List.mem_cons_of_mem _ z)
    by_cases eh : h = []
    · have en := I.nn eh j j1 jn
      rcases e4 with ⟨a1, a2⟩ | ⟨a1, a2⟩
      · refine ⟨l, e1, by rw [a2]; exact List.mem_cons_self, by rw [a2]; exact a1, fun q hq => ?_⟩
        rw [eh] at hq
        rw [List.mem_singleton.mp hq]
        exact e2
      · rw [en] at a1; cases a1
    · obtain ⟨l0, y1, y2, y3, y4, y5⟩ := I.sm eh j j1 jn jh
      have ll := e3 l0 y1
      have all : ∀ q ∈ t.pl :: h, l ≤ sl c t.u t.v (p q) j := fun q hq => by
        rcases List.mem_cons.mp hq with e | e
        · rw [e]; exact e2
        · exact Int.le_trans ll (y5 q e)
      rcases e4 with ⟨a1, a2⟩ | ⟨a1, a2⟩
      · exact ⟨l, e1, by rw [a2]; exact List.mem_cons_self, by rw [a2]; exact a1, all⟩
      · rw [y1] at a1
        cases a1
        exact ⟨_, e1, by rw [a2]; exact List.mem_cons_of_mem _ y3, by rw [a2]; exact y4, all⟩
  obtain ⟨d, hd, dB, dE, dA⟩ := hFound S.best b1 bn bno
  have eD : stD S = d := by unfold stD; rw [hd]; rfl
  rw [eD]
  -- members of the holders
  have mem : ∀ q ∈ t.pl :: h, q ≠ 0 → 1 ≤ p q ∧ p q < m := fun q hq h0 => ⟨Nat.pos_of_ne_zero (heldA q hq), P.lt q (by omega) (I.le q hq)⟩
  have d0 : h ≠ [] → 0 ≤ d := fun eh => by
    rw [dE]
    by_cases z : S.B S.best = 0
    · rw [z, P.p0]; exact I.feasM eh _ b1 bn
    · exact I.feas _ (mem _ dB z).1 (mem _ dB z).2 _ b1 bn
  have injU : ∀ a b, a < n + 1 → b < n + 1 → hMark t a = true → hMark t b = true → p a = p b → a = b := fun a b ha hb ma _ e => P.inj a b (by omega) (by omega) e (heldA a ((usm a).mp ma))
  have uIn : ∀ q ∈ t.pl :: h, shU (hMark t) p d t.u (n + 1) (p q) = t.u (p q) + d := fun q hq => shU_in injU q (by have := I.le q hq; omega) ((usm q).mpr hq)
  have uOut : ∀ i, (∀ q ∈ t.pl :: h, p q ≠ i) → shU (hMark t) p d t.u (n + 1) i = t.u i := fun i hi => shU_out fun q _ hu => hi q ((usm q).mp hu)
  have vIn : ∀ q ∈ t.pl :: h, shV (hMark t) d t.v q = t.v q - d := fun q hq => by unfold shV; rw [if_pos ((usm q).mpr hq)]
  have vOut : ∀ q, q ∉ t.pl :: h → shV (hMark t) d t.v q = t.v q := fun q hq => by unfold shV; rw [if_neg (by rw [usf q hq]; exact Bool.false_ne_true)]
  have ii : ∀ q ∈ t.pl :: h, ∀ j ∈ t.pl :: h, sl c (shU (hMark t) p d t.u (n + 1)) (shV (hMark t) d t.v) (p q) j = sl c t.u t.v (p q) j := fun q hq j hj => by unfold sl; rw [uIn q hq, vIn j hj]; omega
  have io : ∀ q ∈ t.pl :: h, ∀ j, j ∉ t.pl :: h → sl c (shU (hMark t) p d t.u (n + 1)) (shV (hMark t) d t.v) (p q) j = sl c t.u t.v (p q) j - d := fun q hq j hj => by unfold sl; rw [uIn q hq, vOut j hj]; omega
  have oi : ∀ i, (∀ q ∈ t.pl :: h, p q ≠ i) → ∀ j ∈ t.pl :: h, sl c (shU (hMark t) p d t.u (n + 1)) (shV (hMark t) d t.v) i j = sl c t.u t.v i j + d := fun i hi j hj => by unfold sl; rw [uOut i hi, vIn j hj]; omega
  have oo : ∀ i, (∀ q ∈ t.pl :: h, p q ≠ i) → ∀ j, j ∉ t.pl :: h → sl c (shU (hMark t) p d t.u (n + 1)) (shV (hMark t) d t.v) i j = sl c t.u t.v i j := fun i hi j hj => by unfold sl; rw [uOut i hi, vOut j hj]
  -- feasible for a holder
  have feasH : ∀ q ∈ t.pl :: h, ∀ j, 1 ≤ j → j ≤ n → (j ∈ t.pl :: h → 0 ≤ sl c t.u t.v (p q) j) → 0 ≤ sl c (shU (hMark t) p d t.u (n + 1)) (shV (hMark t) d t.v) (p q) j := fun q hq j j1 jn hj => by
    by_cases z : j ∈ t.pl :: h
    · rw [ii q hq j z]; exact hj z
    · rw [io q hq j z]
      obtain ⟨l, e1, _, _, e4⟩ := hFound j j1 jn z
      have := bmin d j l hd j1 jn (usf j z) e1
      have := e4 q hq
      omega
  have noH : h = [] → ∀ j, 1 ≤ j → j ∉ t.pl :: h := fun eh j j1 z => by
    rw [eh, I.first eh] at z
    have := List.mem_singleton.mp z
    omega
  refine ⟨⟨?_, ?_, fun q => usm q, heldA, (fun z => nomatch z), fun _ => zeroA, (fun z => nomatch z), fun _ j j1 jn jo => ?_, fun _ => ?_, ?_, fun i i1 im j j1 jn => ?_, fun _ j j1 jn => ?_, fun q q1 qn hq => ?_⟩, by show S.best ≠ 0; omega⟩
  · exact List.nodup_cons.mpr ⟨bno, I.nd⟩
  · intro q hq
    rcases List.mem_cons.mp hq with e | e
    · rw [e]; exact bn
    · exact I.le q e
  · obtain ⟨l, e1, e2, e3, e4⟩ := hFound j j1 jn jo
    refine ⟨l - d, ?_, ?_, e2, ?_, fun q hq => ?_⟩
    · show shL (hMark t) d S.L j = _
      unfold shL
      rw [if_neg (by rw [usf j jo]; exact Bool.false_ne_true), e1]
      rfl
    · have := bmin d j l hd j1 jn (usf j jo) e1
      omega
    · show l - d = sl c _ _ (p (S.B j)) j
      rw [io _ e2 j jo, ← e3]
    · show l - d ≤ sl c _ _ (p q) j
      rw [io q hq j jo]
      have := e4 q hq
      omega
  · show shL (hMark t) d S.L S.best = _
    unfold shL
    rw [if_neg (by rw [bu]; exact Bool.false_ne_true), hd]
    show Option.some (d - d) = _
    rw [Int.sub_self]
  · refine ⟨fun a0 => ?_, I.chain.imp (fun a ha => (SO.out a (.inr (.inr ((usm a).mpr (List.mem_cons_of_mem _ ha))))).2) fun a ha b hb z => ?_⟩
    · have eh : h ≠ [] := fun z => a0 (I.first z)
      have pn : t.pl ∉ h := (List.nodup_cons.mp I.nd).1
      obtain ⟨l, y1, _, y3, y4, _⟩ := I.sm eh t.pl (Nat.pos_of_ne_zero a0) (I.le _ List.mem_cons_self) pn
      rw [I.plz eh] at y1
      cases y1
      have eb : S.B t.pl = t.B t.pl := (SO.out t.pl (.inr (.inr ((usm _).mpr List.mem_cons_self)))).2
      show S.B t.pl ∈ h ∧ sl c _ _ (p (S.B t.pl)) t.pl = 0
      rw [eb]
      exact ⟨y3, by rw [ii _ (List.mem_cons_of_mem _ y3) _ List.mem_cons_self]; exact y4.symm⟩
    · show sl c _ _ (p b) a = 0
      rw [ii b (List.mem_cons_of_mem _ hb) a (List.mem_cons_of_mem _ ha)]
      exact z
  · show 0 ≤ sl c _ _ i j
    by_cases z : ∃ q ∈ t.pl :: h, p q = i
    · obtain ⟨q, hq, e⟩ := z
      rw [← e]
      exact feasH q hq j j1 jn fun _ => by rw [e]; exact I.feas i i1 im j j1 jn
    · have z : ∀ q ∈ t.pl :: h, p q ≠ i := fun q hq e => z ⟨q, hq, e⟩
      by_cases y : j ∈ t.pl :: h
      · rw [oi i z j y]
        have eh : h ≠ [] := fun eh => noH eh j j1 y
        have := d0 eh
        have := I.feas i i1 im j j1 jn
        omega
      · rw [oo i z j y]
        exact I.feas i i1 im j j1 jn
  · show 0 ≤ sl c _ _ m j
    rw [← P.p0]
    exact feasH 0 zeroA j j1 jn fun y => by
      rw [P.p0]
      exact I.feasM (fun eh => noH eh j j1 y) j j1 jn
  · show sl c _ _ (p q) q = 0
    by_cases y : q ∈ t.pl :: h
    · rw [ii q y q y]; exact I.tight q q1 qn hq
    · rw [oo (p q) (fun a ha e => y (by rw [← P.inj a q (I.le a ha) qn e (heldA a ha)]; exact ha)) q y]
      exact I.tight q q1 qn hq
theorem nodup_le : ∀ {n : Nat} {l : List Nat}, l.Nodup → (∀ q ∈ l, q < n) → l.length ≤ n
  | 0, [], _, _ => Nat.le_refl _
  | 0, a :: l, _, h => absurd (h a List.mem_cons_self) (Nat.not_lt_zero _)
  | n + 1, l, nd, h => by
    have h1 := nodup_le (n := n) (l := l.filter (fun q => q != n)) (List.Pairwise.filter _ nd) fun q hq => by
      obtain ⟨a, b⟩ := List.mem_filter.mp hq
      have := h q a
      have : q ≠ n := fun e => by rw [e] at b; simp at b
      omega
    have h2 : l.length ≤ (l.filter (fun q => q != n)).length + 1 := by
      clear h h1
      induction l with
      | nil => exact Nat.zero_le _
      | cons a l ih =>
        obtain ⟨na, nd⟩ := List.nodup_cons.mp nd
        by_cases e : a = n
        · subst e
          have : l.filter (fun q => q != a) = l := List.filter_eq_self.mpr fun q hq => by
            have : q ≠ a := fun e => na (e ▸ hq)
            simpa using this
          rw [List.filter_cons_of_neg (by simp), this]
          exact Nat.le_refl _
        · rw [List.filter_cons_of_pos (by simpa using e)]
          have := ih nd
          simp only [List.length_cons]
          omega
    omega
def hLoop (n : Nat) (c : Nat → Nat → Int) (p : Nat → Nat) : Nat → HSt → HSt
  | 0, t => t
  | f + 1, t => if t.pl = 0 ∨ p t.pl ≠ 0 then hLoop n c p f (hStep n c p t) else t
theorem HIn.len {n m : Nat} {c : Nat → Nat → Int} {p : Nat → Nat} {h : List Nat} {t : HSt} (I : HIn n m c p h t) : h.length ≤ n := by
  have := nodup_le (n := n + 1) I.nd fun q hq => by have := I.le q hq; omega
  rw [List.length_cons] at this
  omega
theorem loop_in {n m : Nat} {c : Nat → Nat → Int} {p : Nat → Nat} (P : PIn n m p) : ∀ (f : Nat) (h : List Nat) (t : HSt), HIn n m c p h t → n + 1 ≤ h.length + f → ∃ h', HIn n m c p h' (hLoop n c p f t) ∧ h' ≠ [] ∧ p (hLoop n c p f t).pl = 0
  | 0, h, t, I, hf => by
    have := I.len
    omega
  | f + 1, h, t, I, hf => by
    unfold hLoop
    by_cases e : t.pl = 0 ∨ p t.pl ≠ 0
    · rw [if_pos e]
      have hp : p t.pl ≠ 0 := by
        rcases e with e | e
        · rw [e, P.p0]; have := P.m1; omega
        · exact e
      exact loop_in P f _ _ (step_in P I hp).1 (by rw [List.length_cons]; omega)
    · rw [if_neg e]
      refine ⟨h, I, fun z => e (.inl (I.first z)), ?_⟩
      by_cases z : p t.pl = 0
      · exact z
      · exact absurd (.inr z) e
def hBack (B : Nat → Nat) : Nat → (Nat → Nat) → Nat → Nat → Nat
  | 0, p, _ => p
  | f + 1, p, q => if q = 0 then p else hBack B f (fset p q (p (B q))) (B q)
theorem HChain.suf {B : Nat → Nat} {z : Nat → Nat → Prop} {l : List Nat} : ∀ {s : List Nat}, HChain B z (s ++ l) → HChain B z l
  | [], h => h
  | _ :: _, h => HChain.suf h.2
/-- the holders with a hole at q -/
structure Ho (n m : Nat) (z : Nat → Nat → Prop) (q : Nat) (p : Nat → Nat) : Prop where
  qn : q ≤ n
  le : ∀ a, a ≤ n → p a ≤ m
  inj : ∀ a b, a ≤ n → b ≤ n → a ≠ q → b ≠ q → p a = p b → p a ≠ 0 → a = b
  sur : ∀ i, 1 ≤ i → i ≤ m → ∃ a, a ≤ n ∧ a ≠ q ∧ p a = i
  tight : ∀ a, 1 ≤ a → a ≤ n → a ≠ q → p a ≠ 0 → z (p a) a
theorem back_ho {n m : Nat} {z : Nat → Nat → Prop} {B : Nat → Nat} {p0 : Nat → Nat} : ∀ (f : Nat) (q : Nat) (tl : List Nat) (p : Nat → Nat), Ho n m z q p → (q :: tl).Nodup → (∀ a ∈ q :: tl, a ≤ n) → HChain B (fun b a => z (p0 b) a) (q :: tl) → (∀ a ∈ tl, p a = p0 a) → tl.length < f → Ho n m z 0 (hBack B f p q)
  | 0, q, tl, p, _, _, _, _, _, hf => absurd hf (Nat.not_lt_zero _)
  | f + 1, q, tl, p, h, nd, le, ch, ag, hf => by
    unfold hBack
    by_cases e : q = 0
    · rw [if_pos e]
      rw [e] at h
      exact h
    · rw [if_neg e]
      obtain ⟨c1, c2⟩ := ch
      obtain ⟨hm, hz⟩ := c1 e
      obtain ⟨qt, nd⟩ := List.nodup_cons.mp nd
      have bq : B q ≠ q := fun y => qt (y ▸ hm)
      obtain ⟨s, tl2, rfl⟩ := List.append_of_mem hm
      have hbn : B q ≤ n := le _ (List.mem_cons_of_mem _ hm)
      have H2 : Ho n m z (B q) (fset p q (p (B q))) := by
        refine ⟨hbn, fun a ha => ?_, fun a b ha hb na nb y y0 => ?_, fun i i1 im => ?_, fun a a1 an na y0 => ?_⟩
        · by_cases y : a = q
          · rw [y, fset_same]; exact h.le _ hbn
          · rw [fset_ne y]; exact h.le a ha
        · by_cases ya : a = q
          · by_cases yb : b = q
            · rw [ya, yb]
            · rw [ya, fset_same] at y y0
              rw [fset_ne yb] at y
              exact absurd (h.inj (B q) b hbn hb bq yb y y0).symm nb
          · rw [fset_ne ya] at y y0
            by_cases yb : b = q
            · rw [yb, fset_same] at y
              exact absurd (h.inj a (B q) ha hbn ya bq y y0) na
            · rw [fset_ne yb] at y
              exact h.inj a b ha hb ya yb y y0
        · obtain ⟨a, an, aq, ai⟩ := h.sur i i1 im
          by_cases y : a = B q
          · exact ⟨q, h.qn, bq.symm, by rw [fset_same, ← y]; exact ai⟩
          · exact ⟨a, an, y, by rw [fset_ne aq]; exact ai⟩
        · by_cases y : a = q
          · rw [y, fset_same, ag _ hm]
            exact hz
          · rw [fset_ne y] at y0 ⊢
            exact h.tight a a1 an y y0
      have nd2 : (B q :: tl2).Nodup := (List.nodup_append.mp nd).2.1
      have ch2 : HChain B (fun b a => z (p0 b) a) (B q :: tl2) := c2.suf
      refine back_ho f (B q) tl2 _ H2 nd2 (fun a ha => le a (List.mem_cons_of_mem _ (List.mem_append.mpr (.inr ha)))) ch2 (fun a ha => ?_) ?_
      · have am : a ∈ s ++ B q :: tl2 := List.mem_append.mpr (.inr (List.mem_cons_of_mem _ ha))
        rw [fset_ne (fun y : a = q => qt (by subst y; exact am))]
        exact ag a am
      · rw [List.length_append, List.length_cons] at hf
        omega
theorem nodup_mapI {α β : Type} {f : α → β} : ∀ {l : List α}, l.Nodup → (∀ a ∈ l, ∀ b ∈ l, f a = f b → a = b) → (l.map f).Nodup
  | [], _, _ => List.nodup_nil
  | x :: l, nd, h => by
    obtain ⟨n1, n2⟩ := List.nodup_cons.mp nd
    refine List.nodup_cons.mpr ⟨fun z => ?_, nodup_mapI n2 fun a ha b hb => h a (List.mem_cons_of_mem _ ha) b (List.mem_cons_of_mem _ hb)⟩
    obtain ⟨y, hy, e⟩ := List.mem_map.mp z
    exact n1 ((h x List.mem_cons_self y (List.mem_cons_of_mem _ hy) e.symm) ▸ hy)
structure Sol where
  u : Nat → Int
  v : Nat → Int
  p : Nat → Nat
structure HOut (n m : Nat) (c : Nat → Nat → Int) (s : Sol) : Prop where
  feas : ∀ i, 1 ≤ i → i ≤ m → ∀ j, 1 ≤ j → j ≤ n → 0 ≤ sl c s.u s.v i j
  le : ∀ a, 1 ≤ a → a ≤ n → s.p a ≤ m
  inj : ∀ a b, 1 ≤ a → 1 ≤ b → a ≤ n → b ≤ n → s.p a = s.p b → s.p a ≠ 0 → a = b
  sur : ∀ i, 1 ≤ i → i ≤ m → ∃ a, 1 ≤ a ∧ a ≤ n ∧ s.p a = i
  tight : ∀ a, 1 ≤ a → a ≤ n → s.p a ≠ 0 → sl c s.u s.v (s.p a) a = 0
def hStart (s : Sol) : HSt := ⟨s.u, s.v, fun _ => none, fun _ => 0, fun _ => false, 0⟩
def hFound (n : Nat) (c : Nat → Nat → Int) (s : Sol) (m : Nat) : HSt := hLoop n c (fset s.p 0 m) (n + 1) (hStart s)
def addM (n : Nat) (c : Nat → Nat → Int) (s : Sol) (m : Nat) : Sol := ⟨(hFound n c s m).u, (hFound n c s m).v, hBack (hFound n c s m).B (n + 1) (fset s.p 0 m) (hFound n c s m).pl⟩
def hung (n : Nat) (c : Nat → Nat → Int) : Nat → Sol
  | 0 => ⟨fun _ => 0, fun _ => 0, fun _ => 0⟩
  | m + 1 => addM n c (hung n c m) (m + 1)
theorem exists_free {n m : Nat} {p : Nat → Nat} (hm : m < n) (le : ∀ a, 1 ≤ a → a ≤ n → p a ≤ m) (inj : ∀ a b, 1 ≤ a → 1 ≤ b → a ≤ n → b ≤ n → p a = p b → p a ≠ 0 → a = b) : ∃ f, 1 ≤ f ∧ f ≤ n ∧ p f = 0 := by
  by_cases h : ∃ f, 1 ≤ f ∧ f ≤ n ∧ p f = 0
  · exact h
  · exfalso
    have h : ∀ f, 1 ≤ f → f ≤ n → p f ≠ 0 := fun f a b z => h ⟨f, a, b, z⟩
    have nd := nodup_mapI (f := fun k => p (k + 1) - 1) (List.nodup_range (n := n)) fun a ha b hb e => by
      have ha := List.mem_range.mp ha
      have hb := List.mem_range.mp hb
      have h1 := h (a + 1) (by omega) (by omega)
      have h2 := h (b + 1) (by omega) (by omega)
      have e : p (a + 1) - 1 = p (b + 1) - 1 := e
      have := inj (a + 1) (b + 1) (by omega) (by omega) (by omega) (by omega) (by omega) h1
      omega
    have := nodup_le (n := m) nd fun q hq => by
      obtain ⟨k, hk, rfl⟩ := List.mem_map.mp hq
      have hk := List.mem_range.mp hk
      have := le (k + 1) (by omega) (by omega)
      have := h (k + 1) (by omega) (by omega)
      show p (k + 1) - 1 < m
      omega
    rw [List.length_map, List.length_range] at this
    omega
theorem start_pin {n m : Nat} {c : Nat → Nat → Int} {s : Sol} (O : HOut n m c s) (hm : m < n) : PIn n (m + 1) (fset s.p 0 (m + 1)) := by
  refine ⟨fset_same, by omega, fun q q1 qn => ?_, fun a b an bn e e0 => ?_, ?_⟩
  · rw [fset_ne (by omega)]
    have := O.le q q1 qn
    omega
  · by_cases ya : a = 0
    · by_cases yb : b = 0
      · rw [ya, yb]
      · rw [ya, fset_same, fset_ne yb] at e
        have := O.le b (by omega) bn
        omega
    · rw [fset_ne ya] at e e0
      by_cases yb : b = 0
      · rw [yb, fset_same] at e
        have := O.le a (by omega) an
        omega
      · rw [fset_ne yb] at e
        exact O.inj a b (by omega) (by omega) an bn e e0
  · obtain ⟨f, f1, fn, fp⟩ := exists_free hm O.le O.inj
    exact ⟨f, f1, fn, by rw [fset_ne (by omega)]; exact fp⟩
theorem start_in {n m : Nat} {c : Nat → Nat → Int} {s : Sol} (O : HOut n m c s) : HIn n (m + 1) c (fset s.p 0 (m + 1)) [] (hStart s) := by
  refine ⟨List.nodup_cons.mpr ⟨List.not_mem_nil, List.nodup_nil⟩, fun q hq => ?_, fun q => ⟨fun z => Bool.noConfusion z, fun z => absurd z List.not_mem_nil⟩, fun q hq => absurd hq List.not_mem_nil, fun _ => rfl, fun z => absurd rfl z, fun _ j _ _ => rfl, fun z => absurd rfl z, fun z => absurd rfl z, trivial, fun i i1 im j j1 jn => O.feas i i1 (by omega) j j1 jn, fun z => absurd rfl z, fun q q1 qn hq => ?_⟩
  · rw [List.mem_singleton.mp hq]
    exact Nat.zero_le _
  · rw [fset_ne (by omega)] at hq ⊢
    exact O.tight q q1 qn hq
theorem addM_out {n m : Nat} {c : Nat → Nat → Int} {s : Sol} (O : HOut n m c s) (hm : m < n) : HOut n (m + 1) c (addM n c s (m + 1)) := by
  have P := start_pin O hm
  obtain ⟨h, I, hne, hp⟩ := loop_in P (n + 1) [] (hStart s) (start_in O) (by simp)
  have e : hLoop n c (fset s.p 0 (m + 1)) (n + 1) (hStart s) = hFound n c s (m + 1) := rfl
  rw [e] at I hp
  have pl0 : (hFound n c s (m + 1)).pl ≠ 0 := fun z => by
    rw [z, P.p0] at hp
    omega
  have pln := I.le _ List.mem_cons_self
  have H : Ho n (m + 1) (fun i a => sl c (hFound n c s (m + 1)).u (hFound n c s (m + 1)).v i a = 0) (hFound n c s (m + 1)).pl (fset s.p 0 (m + 1)) := by
    refine ⟨pln, fun a an => ?_, fun a b an bn _ _ y y0 => P.inj a b an bn y y0, fun i i1 im => ?_, fun a a1 an _ y0 => I.tight a a1 an y0⟩
    · by_cases z : a = 0
      · rw [z, fset_same]; exact Nat.le_refl _
      · have := P.lt a (by omega) an
        omega
    · by_cases z : i = m + 1
      · exact ⟨0, Nat.zero_le _, pl0.symm, by rw [z]; exact fset_same⟩
      · obtain ⟨a, a1, an, ai⟩ := O.sur i i1 (by omega)
        have e2 : fset s.p 0 (m + 1) a = i := by rw [fset_ne (by omega)]; exact ai
        refine ⟨a, an, fun y => ?_, e2⟩
        rw [y, hp] at e2
        omega
  have ch : HChain (hFound n c s (m + 1)).B (fun b a => sl c (hFound n c s (m + 1)).u (hFound n c s (m + 1)).v (fset s.p 0 (m + 1) b) a = 0) ((hFound n c s (m + 1)).pl :: h) := by
    refine ⟨fun _ => ?_, I.chain⟩
    obtain ⟨l, y1, _, y3, y4, _⟩ := I.sm hne _ (Nat.pos_of_ne_zero pl0) pln (List.nodup_cons.mp I.nd).1
    rw [I.plz hne] at y1
    cases y1
    exact ⟨y3, y4.symm⟩
  have R := back_ho (n + 1) _ h _ H I.nd I.le ch (fun a _ => rfl) (by have := I.len; omega)
  refine ⟨fun i i1 im j j1 jn => ?_, fun a a1 an => R.le a an, fun a b a1 b1 an bn y y0 => R.inj a b an bn (by omega) (by omega) y y0, fun i i1 im => ?_, fun a a1 an y0 => R.tight a a1 an (by omega) y0⟩
  · by_cases z : i = m + 1
    · rw [z]; exact I.feasM hne j j1 jn
    · exact I.feas i i1 (by omega) j j1 jn
  · obtain ⟨a, an, a0, ai⟩ := R.sur i i1 im
    exact ⟨a, Nat.pos_of_ne_zero a0, an, ai⟩
theorem hung_out (n : Nat) (c : Nat → Nat → Int) : ∀ m, m ≤ n → HOut n m c (hung n c m)
  | 0, _ => ⟨fun i i1 im => absurd im (by omega), fun _ _ _ => Nat.le_refl _, fun a b _ _ _ _ _ h => absurd rfl h, fun i i1 im => absurd im (by omega), fun a _ _ h => absurd rfl h⟩
  | m + 1, hm => addM_out (hung_out n c m (by omega)) (by omega)
/-- the end: every place is held, by one member each, and tight -/
theorem hung_end (n : Nat) (c : Nat → Nat → Int) : (∀ a, 1 ≤ a → a ≤ n → 1 ≤ (hung n c n).p a) := by
  have O := hung_out n c n (Nat.le_refl _)
  intro a a1 an
  by_cases z : (hung n c n).p a = 0
  · exfalso
    -- n members in n - 1 places
    have ch : ∀ k : Nat, ∃ q, k < n → 1 ≤ q ∧ q ≤ n ∧ (hung n c n).p q = k + 1 := fun k => by
      by_cases hk : k < n
      · obtain ⟨q, q1, qn, e⟩ := O.sur (k + 1) (by omega) (by omega)
        exact ⟨q, fun _ => ⟨q1, qn, e⟩⟩
      · exact ⟨0, fun y => absurd y hk⟩
    let f : Nat → Nat := fun k => (ch k).choose
    have hf : ∀ k, k < n → 1 ≤ f k ∧ f k ≤ n ∧ (hung n c n).p (f k) = k + 1 := fun k => (ch k).choose_spec
    have nd := nodup_mapI (f := fun k => if f k = n then a - 1 else f k - 1) (List.nodup_range (n := n)) fun x hx y hy e => by
      have hx := hf x (List.mem_range.mp hx)
      have hy := hf y (List.mem_range.mp hy)
      have xa : f x ≠ a := fun y => by rw [y, z] at hx; omega
      have ya : f y ≠ a := fun x => by rw [x, z] at hy; omega
      have : f x = f y := by
        split at e <;> split at e <;> omega
      rw [this] at hx
      omega
    have := nodup_le (n := n - 1) nd fun q hq => by
      obtain ⟨k, hk, rfl⟩ := List.mem_map.mp hq
      have hk := hf k (List.mem_range.mp hk)
      have ka : f k ≠ a := fun y => by rw [y, z] at hk; omega
      split <;> omega
    rw [List.length_map, List.length_range] at this
    omega
  · omega
end Hg
namespace Hg
theorem perm_range : ∀ {n : Nat} {l : List Nat}, l.Nodup → (∀ x ∈ l, x < n) → l.length = n → l.Perm (List.range n)
  | 0, l, _, _, hl => by rw [List.length_eq_zero_iff.mp hl]; exact .nil
  | n + 1, l, nd, h, hl => by
    have hm : n ∈ l := by
      by_cases c : n ∈ l
      · exact c
      · have := nodup_le (n := n) nd fun q hq => by
          have := h q hq
          have : q ≠ n := fun e => c (e ▸ hq)
          omega
        omega
    have p := List.perm_cons_erase hm
    have nd2 := p.nodup_iff.mp nd
    obtain ⟨n1, n2⟩ := List.nodup_cons.mp nd2
    have ih := perm_range (n := n) (l := l.erase n) n2 (fun x hx => by
      have := h x (List.mem_of_mem_erase hx)
      have : x ≠ n := fun e => n1 (e ▸ hx)
      omega) (by rw [List.length_erase_of_mem hm]; omega)
    rw [List.range_succ]
    exact p.trans ((List.Perm.cons n ih).trans (List.perm_append_comm (l₁ := [n])))
theorem perm_sum {l l' : List Int} (h : l.Perm l') : l.sum = l'.sum := by
  induction h with
  | nil => rfl
  | cons x _ ih => rw [List.sum_cons, List.sum_cons, ih]
  | swap x y l => rw [List.sum_cons, List.sum_cons, List.sum_cons, List.sum_cons]; omega
  | trans _ _ a b => exact a.trans b
theorem sum_map_add {f g : Nat → Int} : ∀ {l : List Nat}, (l.map fun i => f i + g i).sum = (l.map f).sum + (l.map g).sum
  | [] => rfl
  | x :: l => by
    have := sum_map_add (f := f) (g := g) (l := l)
    simp only [List.map_cons, List.sum_cons] at *
    omega
def plK (p : Nat → Nat) : Nat → Nat → Nat
  | 0 => fun _ => 0
  | k + 1 => fset (plK p k) (p (k + 1) - 1) k
theorem plK_at {n : Nat} {p : Nat → Nat} (h1 : ∀ a, 1 ≤ a → a ≤ n → 1 ≤ p a) (inj : ∀ a b, 1 ≤ a → 1 ≤ b → a ≤ n → b ≤ n → p a = p b → a = b) : ∀ k, k ≤ n → ∀ q, 1 ≤ q → q ≤ k → plK p k (p q - 1) = q - 1
  | 0, _, q, q1, qk => absurd qk (by omega)
  | k + 1, hk, q, q1, qk => by
    unfold plK
    by_cases e : q = k + 1
    · rw [e, fset_same]; omega
    · rw [fset_ne]
      · exact plK_at h1 inj k (by omega) q q1 (by omega)
      · intro z
        have a := h1 q q1 (by omega)
        have b := h1 (k + 1) (by omega) hk
        exact e (inj q (k + 1) q1 (by omega) (by omega) hk (by omega))
structure Best (n : Nat) (w : Nat → Nat → Int) (mp pp : Nat → Int) (pl : Nat → Nat) : Prop where
  perm : ((List.range n).map pl).Perm (List.range n)
  feas : ∀ i j, i < n → j < n → w i j ≤ mp i + pp j
  tight : ∀ i, i < n → w i (pl i) = mp i + pp (pl i)
theorem Best.lt {n : Nat} {w : Nat → Nat → Int} {mp pp : Nat → Int} {pl : Nat → Nat} (h : Best n w mp pp pl) {i : Nat} (hi : i < n) : pl i < n := List.mem_range.mp (h.perm.mem_iff.mp (List.mem_map.mpr ⟨i, List.mem_range.mpr hi, rfl⟩))
theorem Best.total {n : Nat} {w : Nat → Nat → Int} {mp pp : Nat → Int} {pl : Nat → Nat} (h : Best n w mp pp pl) : ((List.range n).map fun i => w i (pl i)).sum = ((List.range n).map mp).sum + ((List.range n).map pp).sum := by
  have e : ((List.range n).map fun i => w i (pl i)) = (List.range n).map fun i => mp i + pp (pl i) := List.map_congr_left fun i hi => h.tight i (List.mem_range.mp hi)
  rw [e, sum_map_add]
  congr 1
  have := perm_sum (h.perm.map pp)
  rw [List.map_map] at this
  exact this
def wCost (w : Nat → Nat → Int) (i j : Nat) : Int := 0 - w (i - 1) (j - 1)
def hMp (n : Nat) (w : Nat → Nat → Int) : Nat → Int := fun i => 0 - (hung n (wCost w) n).u (i + 1)
def hPp (n : Nat) (w : Nat → Nat → Int) : Nat → Int := fun i => 0 - (hung n (wCost w) n).v (i + 1)
def hPl (n : Nat) (w : Nat → Nat → Int) : Nat → Nat := plK (hung n (wCost w) n).p n
theorem hung_best (n : Nat) (w : Nat → Nat → Int) : Best n w (hMp n w) (hPp n w) (hPl n w) := by
  have O := hung_out n (wCost w) n (Nat.le_refl _)
  have P1 := hung_end n (wCost w)
  have inj : ∀ a b, 1 ≤ a → 1 ≤ b → a ≤ n → b ≤ n → (hung n (wCost w) n).p a = (hung n (wCost w) n).p b → a = b := fun a b a1 b1 an bn e => O.inj a b a1 b1 an bn e (by have := P1 a a1 an; omega)
  have at_ := plK_at P1 inj n (Nat.le_refl _)
  have key : ∀ i, i < n → ∃ q, 1 ≤ q ∧ q ≤ n ∧ (hung n (wCost w) n).p q = i + 1 ∧ hPl n w i = q - 1 := fun i hi => by
    obtain ⟨q, q1, qn, e⟩ := O.sur (i + 1) (by omega) (by omega)
    have := at_ q q1 qn
    rw [e, Nat.add_sub_cancel] at this
    exact ⟨q, q1, qn, e, this⟩
  refine ⟨perm_range (nodup_mapI List.nodup_range fun a ha b hb e => ?_) (fun x hx => ?_) (by rw [List.length_map, List.length_range]), fun i j hi hj => ?_, fun i hi => ?_⟩
  · obtain ⟨q, q1, qn, e1, e2⟩ := key a (List.mem_range.mp ha)
    obtain ⟨r, r1, rn, f1, f2⟩ := key b (List.mem_range.mp hb)
    rw [e2, f2] at e
    have : q = r := by omega
    rw [this] at e1
    omega
  · obtain ⟨a, ha, rfl⟩ := List.mem_map.mp hx
    obtain ⟨q, q1, qn, e1, e2⟩ := key a (List.mem_range.mp ha)
    omega
  · have this : 0 ≤ 0 - w (i + 1 - 1) (j + 1 - 1) - (hung n (wCost w) n).u (i + 1) - (hung n (wCost w) n).v (j + 1) := O.feas (i + 1) (by omega) (by omega) (j + 1) (by omega) (by omega)
    rw [Nat.add_sub_cancel, Nat.add_sub_cancel] at this
    unfold hMp hPp
    omega
  · obtain ⟨q, q1, qn, e1, e2⟩ := key i hi
    have this : 0 - w ((hung n (wCost w) n).p q - 1) (q - 1) - (hung n (wCost w) n).u ((hung n (wCost w) n).p q) - (hung n (wCost w) n).v q = 0 := O.tight q q1 qn (by omega)
    rw [e1, Nat.add_sub_cancel] at this
    unfold hMp hPp
    rw [e2, Nat.sub_add_cancel q1]
    omega
theorem sorted_range : ∀ {n : Nat} {l : List Int}, l.Perm ((List.range n).map fun k : Nat => (k : Int)) → l.Pairwise (· ≤ ·) → l = (List.range n).map fun k : Nat => (k : Int) := by
  intro n l p s
  refine List.Perm.eq_of_pairwise (le := fun a b => a ≤ b) (fun a b _ _ h1 h2 => Int.le_antisymm h1 h2) s ?_ p
  rw [List.pairwise_map]
  exact List.pairwise_lt_range.imp fun h => by omega
end Hg
namespace Hg
theorem sum_le {f g : Nat → Int} : ∀ {l : List Nat}, (∀ i ∈ l, f i ≤ g i) → (l.map f).sum ≤ (l.map g).sum
  | [], _ => Int.le_refl _
  | x :: l, h => by
    have h1 := h x List.mem_cons_self
    have h2 := sum_le (f := f) (g := g) (l := l) fun i hi => h i (List.mem_cons_of_mem _ hi)
    simp only [List.map_cons, List.sum_cons]
    omega
def tot (n : Nat) (w : Nat → Nat → Int) : Int := ((List.range n).map fun i => w i (hPl n w i)).sum
theorem Best.weak {n : Nat} {w : Nat → Nat → Int} {mp pp : Nat → Int} {pl pl' : Nat → Nat} (h : Best n w mp pp pl) (p : ((List.range n).map pl').Perm (List.range n)) : ((List.range n).map fun i => w i (pl' i)).sum ≤ ((List.range n).map mp).sum + ((List.range n).map pp).sum := by
  have lt : ∀ i, i < n → pl' i < n := fun i hi => List.mem_range.mp (p.mem_iff.mp (List.mem_map.mpr ⟨i, List.mem_range.mpr hi, rfl⟩))
  have h1 := sum_le (f := fun i => w i (pl' i)) (g := fun i => mp i + pp (pl' i)) (l := List.range n) fun i hi => h.feas i (pl' i) (List.mem_range.mp hi) (lt i (List.mem_range.mp hi))
  rw [sum_map_add] at h1
  have h2 := perm_sum (p.map pp)
  rw [List.map_map] at h2
  have h3 : ((List.range n).map fun i => pp (pl' i)).sum = ((List.range n).map pp).sum := h2
  omega
theorem tot_of {n : Nat} {w : Nat → Nat → Int} {mp pp : Nat → Int} {pl : Nat → Nat} (h : Best n w mp pp pl) : tot n w = ((List.range n).map mp).sum + ((List.range n).map pp).sum := by
  have a := h.weak (hung_best n w).perm
  have b := (hung_best n w).weak h.perm
  have c := h.total
  have d := (hung_best n w).total
  unfold tot
  omega
theorem sum_one {k : Nat} {m : Int} : ∀ {n : Nat}, k < n → ((List.range n).map fun i => if i = k then m else 0).sum = m
  | 0, h => absurd h (by omega)
  | n + 1, h => by
    rw [List.range_succ, List.map_append, List.sum_append]
    simp only [List.map_cons, List.map_nil, List.sum_cons, List.sum_nil]
    by_cases e : n = k
    · subst e
      have : ((List.range n).map fun i => if i = n then m else 0) = (List.range n).map fun _ => (0 : Int) := List.map_congr_left fun i hi => if_neg (by have := List.mem_range.mp hi; omega)
      rw [this, if_pos rfl, List.map_const', List.sum_replicate_int]
      omega
    · rw [if_neg e, sum_one (n := n) (by omega)]
      omega
theorem tot_row {n k : Nat} {w : Nat → Nat → Int} {m : Int} (hk : k < n) : tot n (fun i j => w i j + if i = k then m else 0) = tot n w + m := by
  have B := hung_best n w
  have B' : Best n (fun i j => w i j + if i = k then m else 0) (fun i => hMp n w i + if i = k then m else 0) (hPp n w) (hPl n w) := ⟨B.perm, fun i j hi hj => by
    have := B.feas i j hi hj
    show w i j + _ ≤ hMp n w i + _ + _
    omega, fun i hi => by
    have := B.tight i hi
    show w i _ + _ = hMp n w i + _ + _
    omega⟩
  rw [tot_of B', tot_of B, sum_map_add, sum_one hk]
  omega
theorem tot_col {n k : Nat} {w : Nat → Nat → Int} {m : Int} (hk : k < n) : tot n (fun i j => w i j + if j = k then m else 0) = tot n w + m := by
  have B := hung_best n w
  have B' : Best n (fun i j => w i j + if j = k then m else 0) (hMp n w) (fun j => hPp n w j + if j = k then m else 0) (hPl n w) := ⟨B.perm, fun i j hi hj => by
    have := B.feas i j hi hj
    show w i j + _ ≤ hMp n w i + (hPp n w j + _)
    omega, fun i hi => by
    have := B.tight i hi
    show w i _ + _ = hMp n w i + (hPp n w _ + _)
    omega⟩
  rw [tot_of B', tot_of B, sum_map_add, sum_one hk]
  omega
def rotI (n k i : Nat) : Nat := if i + k < n then i + k else i + k - n
theorem rot_perm {n k : Nat} (hk : k < n) : ((List.range n).map (rotI n k)).Perm (List.range n) := by
  refine perm_range (nodup_mapI List.nodup_range fun a ha b hb e => ?_) (fun x hx => ?_) (by rw [List.length_map, List.length_range])
  · have ha := List.mem_range.mp ha
    have hb := List.mem_range.mp hb
    unfold rotI at e
    split at e <;> split at e <;> omega
  · obtain ⟨i, hi, rfl⟩ := List.mem_map.mp hx
    have hi := List.mem_range.mp hi
    unfold rotI
    split <;> omega
theorem rot_lt {n k i : Nat} (hk : k < n) (hi : i < n) : rotI n k i < n := by
  unfold rotI
  split <;> omega
theorem tot_rot {n k : Nat} {w : Nat → Nat → Int} (hk : k < n) : tot n (fun i j => w (rotI n k i) j) = tot n w := by
  have B := hung_best n w
  have R := rot_perm hk
  have B' : Best n (fun i j => w (rotI n k i) j) (fun i => hMp n w (rotI n k i)) (hPp n w) (fun i => hPl n w (rotI n k i)) := ⟨by
      have := (R.map (hPl n w)).trans B.perm
      rw [List.map_map] at this
      exact this, fun i j hi hj => B.feas _ j (rot_lt hk hi) hj, fun i hi => B.tight _ (rot_lt hk hi)⟩
  have e := perm_sum (R.map (hMp n w))
  rw [List.map_map] at e
  have e : ((List.range n).map fun i => hMp n w (rotI n k i)).sum = ((List.range n).map (hMp n w)).sum := e
  rw [tot_of B', tot_of B, e]
theorem inv_ex {n : Nat} {p : Nat → Nat} (h : ((List.range n).map p).Perm (List.range n)) : ∃ q : Nat → Nat, ∀ j, j < n → q j < n ∧ p (q j) = j := by
  have key : ∀ j, ∃ i, j < n → i < n ∧ p i = j := fun j => by
    by_cases hj : j < n
    · have := h.mem_iff.mpr (List.mem_range.mpr hj)
      obtain ⟨i, hi, e⟩ := List.mem_map.mp this
      exact ⟨i, fun _ => ⟨List.mem_range.mp hi, e⟩⟩
    · exact ⟨0, fun y => absurd y hj⟩
  exact ⟨fun j => Classical.choose (key j), fun j hj => Classical.choose_spec (key j) hj⟩
theorem tot_tr {n : Nat} {w : Nat → Nat → Int} : tot n (fun i j => w j i) = tot n w := by
  have B := hung_best n w
  obtain ⟨q, hq⟩ := inv_ex B.perm
  have B' : Best n (fun i j => w j i) (hPp n w) (hMp n w) q := ⟨perm_range (nodup_mapI List.nodup_range fun a ha b hb e => by
      have := (hq a (List.mem_range.mp ha)).2
      rw [e, (hq b (List.mem_range.mp hb)).2] at this
      exact this.symm) (fun x hx => by
      obtain ⟨i, hi, rfl⟩ := List.mem_map.mp hx
      exact (hq i (List.mem_range.mp hi)).1) (by rw [List.length_map, List.length_range]), fun i j hi hj => by
      have := B.feas j i hj hi
      omega, fun i hi => by
      have := B.tight (q i) (hq i hi).1
      rw [(hq i hi).2] at this
      show w (q i) i = _
      omega⟩
  rw [tot_of B', tot_of B]
  omega
/-! ### the greatest sum by going through the places that are left -/
def maxL : List Int → Int
  | [] => 0
  | x :: l => if l = [] then x else max x (maxL l)
theorem maxL_mem : ∀ {l : List Int}, l ≠ [] → maxL l ∈ l ∧ ∀ y ∈ l, y ≤ maxL l
  | [], h => absurd rfl h
  | x :: l, _ => by
    unfold maxL
    by_cases e : l = []
    · rw [if_pos e, e]
      exact ⟨List.mem_singleton.mpr rfl, fun y hy => by rw [List.mem_singleton.mp hy]; exact Int.le_refl _⟩
    · rw [if_neg e]
      obtain ⟨h1, h2⟩ := maxL_mem e
      refine ⟨?_, fun y hy => ?_⟩
      · rcases Int.le_total x (maxL l) with c | c
        · rw [Int.max_eq_right c]; exact List.mem_cons_of_mem _ h1
        · rw [Int.max_eq_left c]; exact List.mem_cons_self
      · rcases List.mem_cons.mp hy with c | c
        · rw [c]; omega
        · have := h2 y c
          omega
theorem maxL_is {l : List Int} {m : Int} (h1 : m ∈ l) (h2 : ∀ y ∈ l, y ≤ m) : m = maxL l := by
  obtain ⟨a, b⟩ := maxL_mem (l := l) (fun e => by rw [e] at h1; cases h1)
  exact Int.le_antisymm (b m h1) (h2 _ a)
def others (left : List Nat) (p : Nat) : List Nat := left.filter fun q => decide (q ≠ p)
def bstF (w : Nat → Nat → Int) (n : Nat) : Nat → List Nat → Int
  | 0, _ => 0
  | f + 1, left => maxL (left.map fun p => w (n - left.length) p + bstF w n f (others left p))
def bst (w : Nat → Nat → Int) (n : Nat) (left : List Nat) : Int := bstF w n left.length left
theorem others_perm : ∀ {left : List Nat} {p : Nat}, left.Nodup → p ∈ left → left.Perm (p :: others left p)
  | x :: l, p, nd, hp => by
    obtain ⟨n1, n2⟩ := List.nodup_cons.mp nd
    unfold others
    by_cases e : x = p
    · subst e
      rw [List.filter_cons_of_neg (by simp)]
      have : l.filter (fun q => decide (q ≠ x)) = l := List.filter_eq_self.mpr fun a ha => decide_eq_true fun z => n1 (z ▸ ha)
      rw [this]
    · rw [List.filter_cons_of_pos (by simpa using e)]
      have hp : p ∈ l := by
        rcases List.mem_cons.mp hp with c | c
        · exact absurd c.symm e
        · exact c
      exact (List.Perm.cons x (others_perm n2 hp)).trans (List.Perm.swap p x _)
theorem others_len {left : List Nat} {p : Nat} (nd : left.Nodup) (hp : p ∈ left) : (others left p).length + 1 = left.length := by
  have := (others_perm nd hp).length_eq
  rw [List.length_cons] at this
  omega
theorem others_nd {left : List Nat} {p : Nat} (nd : left.Nodup) : (others left p).Nodup := List.Nodup.sublist List.filter_sublist nd
theorem others_mem {left : List Nat} {p q : Nat} (h : q ∈ others left p) : q ∈ left := (List.mem_filter.mp h).1
theorem bst_up {n : Nat} {w : Nat → Nat → Int} {mp pp : Nat → Int} {pl : Nat → Nat} (B : Best n w mp pp pl) : ∀ (f : Nat) (left : List Nat), left.length = f → f ≤ n → left.Nodup → (∀ p ∈ left, p < n) → bstF w n f left ≤ (((List.range n).drop (n - f)).map mp).sum + (left.map pp).sum
  | 0, left, hl, hn, nd, hp => by
    rw [List.length_eq_zero_iff.mp hl, List.drop_of_length_le (by rw [List.length_range]; omega)]
    exact Int.le_refl _
  | f + 1, left, hl, hn, nd, hp => by
    unfold bstF
    have ne : left.map (fun p => w (n - left.length) p + bstF w n f (others left p)) ≠ [] := fun e => by rw [List.map_eq_nil_iff] at e; rw [e] at hl; cases hl
    obtain ⟨p, hpm, e⟩ := List.mem_map.mp (maxL_mem ne).1
    rw [← e]
    have ol := others_len nd hpm
    have ih := bst_up B f (others left p) (by omega) (by omega) (others_nd nd) fun q hq => hp q (others_mem hq)
    have hs := perm_sum ((others_perm nd hpm).map pp)
    rw [List.map_cons, List.sum_cons] at hs
    have hf := B.feas (n - left.length) p (by omega) (hp p hpm)
    have hd : (List.range n).drop (n - (f + 1)) = (n - (f + 1)) :: (List.range n).drop (n - f) := by
      rw [List.drop_eq_getElem_cons (by rw [List.length_range]; omega), List.getElem_range, show n - (f + 1) + 1 = n - f by omega]
    rw [hd, List.map_cons, List.sum_cons]
    rw [hl] at hf ⊢
    omega
theorem bst_lo {n : Nat} {w : Nat → Nat → Int} {pl : Nat → Nat} : ∀ (f : Nat) (left : List Nat), left.length = f → f ≤ n → left.Nodup → (((List.range n).drop (n - f)).map pl).Perm left → (((List.range n).drop (n - f)).map fun i => w i (pl i)).sum ≤ bstF w n f left
  | 0, left, hl, hn, nd, hp => by
    rw [List.drop_of_length_le (by rw [List.length_range]; omega)]
    exact Int.le_refl _
  | f + 1, left, hl, hn, nd, hp => by
    have hd : (List.range n).drop (n - (f + 1)) = (n - (f + 1)) :: (List.range n).drop (n - f) := by
      rw [List.drop_eq_getElem_cons (by rw [List.length_range]; omega), List.getElem_range, show n - (f + 1) + 1 = n - f by omega]
    rw [hd, List.map_cons] at hp
    rw [hd, List.map_cons, List.sum_cons]
    have hm : pl (n - (f + 1)) ∈ left := hp.mem_iff.mp List.mem_cons_self
    have ol := others_len nd hm
    have ih := bst_lo (w := w) (pl := pl) f (others left (pl (n - (f + 1)))) (by omega) (by omega) (others_nd nd) ((List.perm_cons _).mp (hp.trans (others_perm nd hm)))
    unfold bstF
    have ne : left.map (fun p => w (n - left.length) p + bstF w n f (others left p)) ≠ [] := fun e => by rw [List.map_eq_nil_iff] at e; rw [e] at hl; cases hl
    have := (maxL_mem ne).2 _ (List.mem_map.mpr ⟨pl (n - (f + 1)), hm, rfl⟩)
    rw [hl] at this ⊢
    omega
theorem bst_tot {n : Nat} {w : Nat → Nat → Int} : bst w n (List.range n) = tot n w := by
  have B := hung_best n w
  have u := bst_up B n (List.range n) List.length_range (Nat.le_refl _) List.nodup_range fun p hp => List.mem_range.mp hp
  have l := bst_lo (w := w) (pl := hPl n w) n (List.range n) List.length_range (Nat.le_refl _) List.nodup_range (by rw [Nat.sub_self]; exact B.perm)
  rw [Nat.sub_self, List.drop_zero] at u l
  have e := tot_of B
  unfold bst
  rw [List.length_range]
  unfold tot at e ⊢
  omega
end Hg
/-! ### lists by their items' function; a few owned objects -/
open Hg (fset fset_same fset_ne)
def lsF (g : Nat → V) (n : Nat) : List V := (List.range n).map g
theorem lsF_len {g : Nat → V} {n : Nat} : (lsF g n).length = n := by rw [lsF, List.length_map, List.length_range]
theorem lsF_get {g : Nat → V} {n k : Nat} (h : k < n) : (lsF g n)[k]? = some (g k) := by rw [lsF, List.getElem?_map, List.getElem?_range h]; rfl
theorem at_lsF {g : Nat → V} {n k : Nat} (h : k < n) : atI (lsF g n) (k : Int) = some (g k) := atI_nat (lsF_get h)
theorem ixn_lsF {g : Nat → V} {n k : Nat} (h : k < n) : ixN (lsF g n).length (k : Int) = some k := by
  rw [ixn_in (by omega) (by rw [lsF_len]; omega), Int.toNat_natCast]
theorem set_lsF {g : Nat → V} {n k : Nat} {x : V} : (lsF g n).set k x = lsF (fset g k x) n := by
  refine List.ext_getElem? fun i => ?_
  rw [List.getElem?_set, lsF_len]
  by_cases hi : i < n
  · rw [lsF_get hi, lsF_get hi]
    by_cases e : k = i
    · subst e
      rw [if_pos rfl, if_pos hi, fset_same]
    · rw [if_neg e, fset_ne (Ne.symm e)]
  · have h1 : (lsF g n)[i]? = none := List.getElem?_eq_none (by rw [lsF_len]; omega)
    have h2 : (lsF (fset g k x) n)[i]? = none := List.getElem?_eq_none (by rw [lsF_len]; omega)
    rw [h1, h2]
    split
    · split
      · omega
      · rfl
    · rfl
theorem lsF_congr {g g' : Nat → V} {n : Nat} (h : ∀ k, k < n → g k = g' k) : lsF g n = lsF g' n := List.map_congr_left fun k hk => h k (List.mem_range.mp hk)
theorem lsF_rep {v : V} {n : Nat} : (List.replicate n [v]).flatten = lsF (fun _ => v) n := by
  rw [lsF, List.map_const', List.length_range]
  induction n with
  | zero => rfl
  | succ n ih => rw [List.replicate_succ, List.flatten_cons, ih, List.replicate_succ]; rfl
theorem fset_map {α : Type} {f : Nat → α} {i : Nat} {x : α} {k : α → V} : (fset (fun j => k (f j)) i (k x)) = fun j => k (fset f i x j) := by
  funext j
  unfold fset
  split <;> rfl
def intF (f : Nat → Int) (n : Nat) : List V := lsF (fun k => .int (f k)) n
def natF (f : Nat → Nat) (n : Nat) : List V := lsF (fun k => .int (f k : Int)) n
def optV : Option Int → V
  | none => .non
  | some l => .int l
def optF (f : Nat → Option Int) (n : Nat) : List V := lsF (fun k => optV (f k)) n
def boolF (f : Nat → Bool) (n : Nat) : List V := lsF (fun k => .bl (f k)) n
theorem set_intF {f : Nat → Int} {n k : Nat} {x : Int} : (intF f n).set k (.int x) = intF (fset f k x) n := by rw [intF, set_lsF, intF, fset_map (k := V.int)]
theorem set_natF {f : Nat → Nat} {n k : Nat} {x : Nat} : (natF f n).set k (.int (x : Int)) = natF (fset f k x) n := by rw [natF, set_lsF, natF, fset_map (k := fun m : Nat => V.int (m : Int))]
theorem set_optF {f : Nat → Option Int} {n k : Nat} {x : Int} : (optF f n).set k (.int x) = optF (fset f k (some x)) n := by
  rw [optF, set_lsF, optF, ← fset_map (k := optV)]
  rfl
theorem set_boolF {f : Nat → Bool} {n k : Nat} {x : Bool} : (boolF f n).set k (.bl x) = boolF (fset f k x) n := by rw [boolF, set_lsF, boolF, fset_map (k := V.bl)]
structure Hs (l : List (Addr × HO)) (rows : List Addr) (n : Nat) (w : Nat → Nat → Int) (H : Hp) : Prop where
  nd : (l.map (·.1)).Nodup
  at_ : ∀ e ∈ l, H e.1 = some e.2
  len : rows.length = n
  row : ∀ i r, rows[i]? = some r → r ∉ l.map (·.1) ∧ H r = some (.lst (intF (w i) n))
theorem Hs.get {l : List (Addr × HO)} {rows : List Addr} {n : Nat} {w : Nat → Nat → Int} {H : Hp} (h : Hs l rows n w H) (i : Nat) {a : Addr} {o : HO} (e : l[i]? = some (a, o)) : H a = some o := h.at_ _ (List.mem_of_getElem? e)
theorem Hs.put {l : List (Addr × HO)} {rows : List Addr} {n : Nat} {w : Nat → Nat → Int} {H : Hp} (h : Hs l rows n w H) (i : Nat) {a : Addr} {o o' : HO} (e : l[i]? = some (a, o)) : Hs (l.set i (a, o')) rows n w (upd H a o') := by
  have hi : i < l.length := (List.getElem?_eq_some_iff.mp e).1
  have em : (l.set i (a, o')).map (·.1) = l.map (·.1) := by
    rw [List.map_set]
    refine List.ext_getElem? fun j => ?_
    rw [List.getElem?_set]
    split
    · next y =>
      subst y
      rw [List.length_map, if_pos hi, List.getElem?_map, e]
      rfl
    · rfl
  refine ⟨by rw [em]; exact h.nd, fun x hx => ?_, h.len, fun j r hr => ?_⟩
  · obtain ⟨j, hj⟩ := List.getElem?_of_mem hx
    rw [List.getElem?_set] at hj
    split at hj
    · next y =>
      subst y
      cases hj
      exact upd_same
    · next y =>
      have ne : x.1 ≠ a := fun z => y (by
        have e1 : (l.map (·.1))[i]? = some a := by rw [List.getElem?_map, e]; rfl
        have e2 : (l.map (·.1))[j]? = some a := by rw [List.getElem?_map, hj, ← z]; rfl
        have hj' : j < (l.map (·.1)).length := (List.getElem?_eq_some_iff.mp e2).1
        have hi' : i < (l.map (·.1)).length := (List.getElem?_eq_some_iff.mp e1).1
        exact (List.getElem?_inj hi' h.nd).mp (e1.trans e2.symm))
      rw [upd_ne ne]
      exact h.at_ x (List.mem_of_getElem? hj)
  · obtain ⟨h1, h2⟩ := h.row j r hr
    refine ⟨by rw [em]; exact h1, ?_⟩
    rw [upd_ne (fun z => h1 (by rw [z]; exact List.mem_map.mpr ⟨_, List.mem_of_getElem? e, rfl⟩))]
    exact h2
theorem Hs.same {l : List (Addr × HO)} {rows : List Addr} {n : Nat} {w : Nat → Nat → Int} {H H' : Hp} (h : Hs l rows n w H) (s : Same H H') : Hs l rows n w H' := ⟨h.nd, fun e he => s _ _ (h.at_ e he), h.len, fun i r hr => ⟨(h.row i r hr).1, s _ _ (h.row i r hr).2⟩⟩
theorem Hs.push {l : List (Addr × HO)} {rows : List Addr} {n : Nat} {w : Nat → Nat → Int} {H H' : Hp} {a : Addr} {o : HO} (h : Hs l rows n w H) (na : H a = none) (s : Same H H') (ha : H' a = some o) : Hs (l ++ [(a, o)]) rows n w H' := by
  have nin : a ∉ l.map (·.1) := fun z => by
    obtain ⟨e, he, q⟩ := List.mem_map.mp z
    have y := h.at_ e he
    rw [q, na] at y
    cases y
  refine ⟨?_, fun e he => ?_, h.len, fun i r hr => ?_⟩
  · rw [List.map_append, List.nodup_append]
    exact ⟨h.nd, List.nodup_cons.mpr ⟨List.not_mem_nil, List.nodup_nil⟩, fun x hx y hy z => nin (by have q : y = a := List.mem_singleton.mp hy; rw [← q, ← z]; exact hx)⟩
  · rcases List.mem_append.mp he with z | z
    · exact s _ _ (h.at_ e z)
    · rw [List.mem_singleton.mp z]; exact ha
  · obtain ⟨h1, h2⟩ := h.row i r hr
    refine ⟨fun z => ?_, s _ _ h2⟩
    rw [List.map_append] at z
    rcases List.mem_append.mp z with y | y
    · exact h1 y
    · have q : r = a := List.mem_singleton.mp y
      rw [q, na] at h2
      cases h2
theorem r_lenR {H : Hp} {Q : VK} {K : PySem.W.Frag} {p : Addr} {as : List Addr} (h1 : H p = some (.lst (as.map V.ref))) (h : Q (.int as.length) H) : rLenL K [.ref p] H Q := ⟨p, _, rfl, .inl (.inl (.inl h1)), by rw [List.length_map]; exact h⟩
theorem r_rep {H : Hp} {Q : VK} {a : Addr} {v : V} {k : Nat} (ha : H a = some (.lst [v])) (hk : k ≤ 1000) (h : ∀ p, H p = none → Q (.ref p) (upd H p (.lst (lsF (fun _ => v) k)))) : rRep (.ref a) (.int (k : Int)) H Q := by
  refine ⟨a, k, [v], rfl, rfl, ha, by omega, by omega, ?_, fun p hp => ?_⟩
  · rw [Int.toNat_natCast, List.length_singleton, Nat.one_mul]
    exact Nat.le_of_lt (small1000 hk)
  · rw [Int.toNat_natCast, lsF_rep]
    exact h p hp
theorem r_while {c : TT} {tb : TS} {D : Ends} {σ : L2.St} {H : Hp} (Pv : Nat → L2.St → Hp → Prop) (h0 : ∃ m, Pv m σ H)
    (hs : ∀ m σ H, Pv m σ H → c σ H fun b H1 => if b = true then ∃ N : L2.St → Hp → Prop, (∀ σ' H', N σ' H' → ∃ m', m' < m ∧ Pv m' σ' H') ∧ tb { D with nx := N, ct := N, bk := D.nx } σ H1 else D.nx σ H1) : tWhile c tb D σ H := ⟨Pv, h0, hs⟩
/-! ### comprehensions that make a new list for each item -/
theorem lc_lsts {σ : L2.St} {H : Hp} {Q : VK} {te : TE} {K : PySem.W.Frag} {a : Addr} {xs : List V} {n : Nat} (f : V → List V) (hS : SqL K H a xs) (hz : xs.length ≤ 1000)
    (he : ∀ (x : V) (H' : Hp) (QQ : VK), x ∈ xs → Same H H' → (∀ u, H' u = none → QQ (.ref u) (upd H' u (.lst (f x)))) → te ((wipe σ [n]).set n (some x)) H' QQ)
    (hq : ∀ D (us : List Addr) H', H D = none → us.length = xs.length → us.Nodup → (∀ u ∈ us, H u = none ∧ u ≠ D) → H' D = some (.lst (us.map V.ref)) → (∀ (j : Nat) (u : Addr) (x : V), us[j]? = some u → xs[j]? = some x → H' u = some (.lst (f x))) → Same H H' → Q (.ref D) H') : lcGo (Itl K a) (gName n) tYes te [n] σ Q H := by
  intro D nD
  refine lc_list (K := K) (a := a) (xs := xs) (fun i H' => ∃ us : List Addr, us.length = i ∧ us.Nodup ∧ (∀ u ∈ us, H u = none ∧ u ≠ D) ∧ H' D = some (.lst (us.map V.ref)) ∧ (∀ (j : Nat) (u : Addr) (x : V), us[j]? = some u → xs[j]? = some x → H' u = some (.lst (f x))) ∧ Same H H') ⟨[], rfl, List.nodup_nil, fun u h => (by cases h), upd_same, fun j u x h => (by cases h), same_new nD⟩ (fun i H' _ ⟨_, _, _, _, _, _, s⟩ => s.seq hS) ?_ ?_
  · rintro i x H4 hx ⟨us, hl, hnd, hf, hD4, hu, s4⟩
    refine ⟨wipe1, ?_⟩
    show te _ _ _
    refine he x H4 _ (List.mem_of_getElem? hx) s4 fun u nu => ?_
    have uD : D ≠ u := ne_of_none hD4 nu
    have hD5 : (upd H4 u (.lst (f x))) D = some (.lst (us.map V.ref)) := (upd_ne uD).trans hD4
    have hi : i < xs.length := (List.getElem?_eq_some_iff.mp hx).1
    have nin : u ∉ us := fun hm => by
      obtain ⟨j, hj⟩ := List.getElem?_of_mem hm
      have hj' : j < us.length := (List.getElem?_eq_some_iff.mp hj).1
      have z := hu j u _ hj (List.getElem?_eq_getElem (show j < xs.length by omega))
      rw [nu] at z
      cases z
    refine ⟨_, hD5, small1000 (by rw [List.length_map, hl]; omega), us ++ [u], by rw [List.length_append, hl]; rfl, ?_, ?_, by rw [upd_same, List.map_append]; rfl, fun j v y h1 h2 => ?_, fun b o e => (upd_ne (ne_of_none e nD)).trans ((upd_ne (ne_of_none (s4 _ _ e) nu)).trans (s4 _ _ e))⟩
    · rw [List.nodup_append]
      exact ⟨hnd, (List.nodup_cons.mpr ⟨List.not_mem_nil, List.nodup_nil⟩), fun b hb c hc e => nin (by rw [← List.mem_singleton.mp hc, ← e]; exact hb)⟩
    · intro v hv
      rcases List.mem_append.mp hv with z | z
      · exact hf v z
      · rw [List.mem_singleton.mp z]
        exact ⟨s4.free nu, uD.symm⟩
    rcases Nat.lt_or_ge j us.length with hj | hj
    · rw [List.getElem?_append_left hj] at h1
      have z := hu j v y h1 h2
      have vm := List.mem_of_getElem? h1
      rw [upd_ne (hf v vm).2, upd_ne (ne_of_none z nu)]
      exact z
    · rw [List.getElem?_append_right hj] at h1
      cases hk : j - us.length with
      | zero =>
        rw [hk] at h1
        cases h1
        have : j = i := by omega
        rw [this, hx] at h2
        cases h2
        rw [upd_ne uD.symm]
        exact upd_same
      | succ m => rw [hk] at h1; cases h1
  · rintro H4 ⟨us, hl, hnd, hf, hD4, hu, s4⟩
    exact hq D us H4 nD hl hnd hf hD4 hu s4
/-- the items of the list or tuple at an address -/
def itemsOf (H : Hp) : V → List V
  | .ref u => match H u with
    | some (.lst xs) => xs
    | some (.tup xs) => xs
    | _ => []
  | _ => []
theorem items_tup {H : Hp} {u : Addr} {xs : List V} (h : H u = some (.tup xs)) : itemsOf H (.ref u) = xs := by simp only [itemsOf, h]
theorem items_lst {H : Hp} {u : Addr} {xs : List V} (h : H u = some (.lst xs)) : itemsOf H (.ref u) = xs := by simp only [itemsOf, h]
theorem lsF_succ {f : Nat → V} {n : Nat} : lsF f (n + 1) = lsF f n ++ [f n] := by rw [lsF, List.range_succ, List.map_append]; rfl
theorem lc_enum {σ : L2.St} {H : Hp} {Q : VK} {te : TE} {K : PySem.W.Frag} {a : Addr} {xs : List V} {n1 n2 : Nat} (f : Nat → V) (hS : SqL K H a xs) (hz : xs.length ≤ 1000) (hw : ∀ x y, wipe (((wipe σ [n1, n2]).set n1 (some x)).set n2 (some y)) [n1, n2] = wipe σ [n1, n2])
    (he : ∀ (i : Nat) (x : V) (H' : Hp) (QQ : VK), xs[i]? = some x → Same H H' → QQ (f i) H' → te (((wipe σ [n1, n2]).set n1 (some (.int (i : Int)))).set n2 (some x)) H' QQ)
    (hq : ∀ D H', H D = none → Same H H' → H' D = some (.lst (lsF f xs.length)) → Q (.ref D) H') : lcGo (Ite K a) (gTup K 2 (gCons (gName n1) (gCons (gName n2) gNil))) tYes te [n1, n2] σ Q H := by
  intro D nD
  refine lc_it (walk_enum (K := K) (a := a) (xs := xs)) (fun i H' => H' D = some (.lst (lsF f i)) ∧ Same H H') ⟨upd_same, same_new nD⟩ (fun i H' _ ⟨_, s⟩ => s.seq hS) ?_ ?_
  · rintro i v H1 H2 hi ⟨h1, s1⟩ ⟨T, x, y, rfl, nT, rfl, hx, hy⟩
    cases hx
    refine r_gtup (SqT.of upd_same) rfl ?_
    refine ⟨_, _, rfl, ?_⟩
    show gCons (gName n2) gNil _ _ _ _
    refine ⟨_, _, rfl, ?_⟩
    unfold gName
    refine ⟨rfl, hw _ _, ?_⟩
    show te _ _ _
    have hD : (upd H1 T (.tup [.int (i : Int), y])) D = some (.lst (lsF f i)) := (upd_ne (ne_of_none h1 nT)).trans h1
    refine he i y _ _ hy (s1.trans (same_new nT)) ⟨_, hD, small1000 (by rw [lsF_len]; omega), by rw [upd_same, lsF_succ], fun b o e => (upd_ne (ne_of_none e nD)).trans ((upd_ne (ne_of_none (s1 _ _ e) nT)).trans (s1 _ _ e))⟩
  · rintro H1 ⟨h1, s1⟩
    exact hq D H1 nD s1 h1
/-! ### dicts by tuples of keys; range as a tuple: readings -/
section
variable {σ : L2.St} {H : Hp} {Q : VK} {K : PySem.W.Frag} {ta tb tc te td ty tv : TE} {D : Ends}
theorem r_dnewT (h : ∀ p, H p = none → Q (.ref p) (upd H p (.dT []))) : tDNewT σ H Q := h
theorem r_dnin (h : ty σ H fun y H1 => td σ H1 fun x H2 => ∃ a o, x = .ref a ∧ DGet H2 a y o ∧ Q (.bl (!o.isSome)) H2) : tDNotIn ty td σ H Q := h
theorem r_dgt (h : td σ H fun x H1 => ty σ H1 fun y H2 => ∃ a v, x = .ref a ∧ DGet H2 a y (some v) ∧ Q v H2) : tDGet td ty σ H Q := h
theorem r_dput (h : tv σ H fun v H1 => td σ H1 fun x H2 => ty σ H2 fun y H3 => ∃ a H4, x = .ref a ∧ DPut H3 a y v H4 ∧ D.nx σ H4) : sDPut td ty tv D σ H := h
theorem r_tupRg (h : ta σ H fun x H1 => ∃ n, x = .int n ∧ RgOk 0 n ∧ ∀ q, H1 q = none → Q (.ref q) (upd H1 q (.tup (rgV 0 n)))) : tTupRg (tRg1 ta) σ H Q := h
theorem r_dinT {d t : Addr} {kvs : List (List Key × V)} {k : List Key} {F : Option V → Prop} (e : H d = some (.dT kvs)) (et : H t = some (.tup (k.map kV))) (h : F (valV kvs k)) : ∃ a o, V.ref d = .ref a ∧ DGet H a (.ref t) o ∧ F o := ⟨d, _, rfl, DGet.t e et, h⟩
theorem r_dgetT {d t : Addr} {kvs : List (List Key × V)} {k : List Key} {v : V} {F : V → Prop} (e : H d = some (.dT kvs)) (et : H t = some (.tup (k.map kV))) (hv : valV kvs k = some v) (h : F v) : ∃ a v, V.ref d = .ref a ∧ DGet H a (.ref t) (some v) ∧ F v := ⟨d, _, rfl, hv ▸ DGet.t e et, h⟩
theorem r_dputT {d t : Addr} {kvs : List (List Key × V)} {k : List Key} {v : V} {F : Hp → Prop} (e : H d = some (.dT kvs)) (et : H t = some (.tup (k.map kV))) (hl : kvs.length ≤ 10000) (h : F (upd H d (.dT (putK kvs k v)))) : ∃ a H4, V.ref d = .ref a ∧ DPut H a (.ref t) v H4 ∧ F H4 := ⟨d, _, rfl, DPut.t e et (by rw [sizeLine_eq]; omega), h⟩
theorem putT_len {kvs : List (List Key × V)} {k : List Key} {v : V} : (putK kvs k v).length ≤ kvs.length + 1 := by
  unfold putK
  split
  · rw [List.length_map]; omega
  · rw [List.length_append]; exact Nat.le_refl _
end
theorem pi_listK {X : Cx} {tg l : Expr} {tl : TE} {K : PySem.W.Frag} (hl : PE X l tl) (hK : X.K = K := by rfl) : PI X tg l (iList K tl) := hK ▸ pi_list hl
local macro_rules | `(tactic| wtm_at "rd1") => `(tactic| with_reducible first
  | refine r_seq ?_ | refine r_next ?_ | refine r_asg ?_ | refine r_drop ?_ | refine r_ret ?_ | refine r_ifs ?_ | refine r_gname ?_ | refine r_gsub ?_ | refine r_gcons ?_ | refine r_gnil ?_
  | refine r_var rfl ?_ | refine r_c ?_ | refine r_op ?_ | refine r_un ?_ | refine r_I0 ?_ | refine r_U ?_ | refine r_test ?_ | refine r_tB ?_ | refine r_bl ?_
  | refine r_and ?_ | refine r_or ?_ | refine r_not ?_ | refine r_andV ?_ | refine r_orV ?_ | refine r_notV ?_ | refine r_ife ?_
  | refine r_eqI ?_ | refine r_neI ?_ | refine r_eqB ?_ | refine r_neB ?_ | refine r_eqS ?_ | refine r_neS ?_
  | refine r_nil ?_ | refine r_cons ?_ | refine r_cb ?_ | refine r_call ?_ | refine r_lst ?_ | refine r_tup ?_ | refine r_int1 ?_ | refine r_intB ?_ | refine r_abs1 ?_ | refine r_bm ?_ | refine r_sl ?_ | refine r_np ?_ | refine r_pt ?_ | refine r_pti ?_ | refine r_lc ?_ | refine r_il ?_ | refine r_it ?_ | refine r_rng1 ?_ | refine r_rng2 ?_ | refine r_callN ?_ | refine r_fld ?_ | refine r_sfld ?_ | refine r_meth ?_ | refine r_make ?_ | refine r_aug rfl ?_ | refine r_ipI ?_ | refine r_par ?_ | refine r_par3 ?_ | refine r_two ?_ | refine r_three ?_)
local macro_rules | `(tactic| wtm_at "ixs") => `(tactic| first
  | ((with_reducible show rIxL _ (V.ref _) (V.int _) _ _); refine r_ixL (.inl (.inl (by assumption))) (by first | rfl | exact ati_n (by omega) | exact ati_int (by omega) (by omega)) ?_)
  | ((with_reducible show rIxT _ (V.ref _) (V.int _) _ _); refine r_ixT (.inl (.inl (by assumption))) (by first | rfl | exact ati_n (by omega) | exact ati_int (by omega) (by omega)) ?_))
local macro_rules | `(tactic| wtm_at "rd") => `(tactic| repeat first | wtm_at "rd1" | wtm_at "ixs")
local macro_rules | `(tactic| wtm_at "rdi") => `(tactic| repeat' (first | wtm_at "rd1" | wtm_at "ixs" | with_reducible refine iteT ?_ | with_reducible refine iteF ?_ | with_reducible refine iteNT ?_ | with_reducible refine iteNF ?_ | with_reducible refine r_ite (fun _ => ?_) (fun _ => ?_) | with_reducible refine r_iten (fun _ => ?_) (fun _ => ?_)))
local macro_rules | `(tactic| wtm_at "rd1") => `(tactic| with_reducible first
  | refine r_binS ?_ | refine r_makeS ?_ | refine r_makeKS ?_ | refine r_xf ?_ | refine r_ost ?_ | refine r_isNi ?_ | refine r_isNn ?_ | refine r_isNr ?_ | refine r_notNi ?_ | refine r_notNn ?_ | refine r_notNr ?_ | refine r_isNe ?_ | refine r_notNe ?_)
local macro_rules | `(tactic| wtm_at "rd1") => `(tactic| with_reducible first | refine r_augS ?_ | refine r_ipI ?_)
local macro_rules | `(tactic| wtm_at "rd1") => `(tactic| with_reducible first | refine r_dnewT ?_ | refine r_dnin ?_ | refine r_dgt ?_ | refine r_dput ?_ | refine r_tupRg ?_)
section
variable {P : Program} {w : World} {K : PySem.W.Frag} {mg : Str → Option Value} {base : Heap}
theorem ok__law_draw (T : Txt K mg) : FnOk P w K mg base CX0 1 T.f__law_draw T.d__law_draw ["_law_draws", "_law_many"] spDraw := by
  refine T.F__law_draw.ok sc__law_draw (fun vs H Q E h => ?_) (fun cdv A outer s H vs Q E hr h => ?_)
  · obtain ⟨d, c, r, m, rfl, _⟩ := h
    rfl
  · obtain ⟨d, c, r, m, rfl, D, m0, m1, q⟩ := h
    obtain ⟨dc, dr, cr, ns, rs, t, h1, h2, h3, hl, hp, ht, hn⟩ := D
    refine ⟨_, (pss_cons (ps_set (i := 2) sc__law_draw.nd rfl (by first | exact Or.inl rfl | exact Or.inr rfl) (pe_ix (r := rIxL K) ix_list (pv 0) pe_int (fun _ _ => rfl)))
      (pss_cons (ps_asg (pe_op op_add (pv 2) pe_int) (pg_sub (pv 0) pe_int set_list))
      (pss_cons (ps_set (i := 3) sc__law_draw.nd rfl (by first | exact Or.inl rfl | exact Or.inr rfl) (pe_op op_mod (pe_callTy c_int1 (by rfl) T.z_int (by decide +kernel) (pa_cons (pv 2) pa_nil)) (pe_callB (r := rLenL K) (id := "len") c_len (by rfl) T.z_len (by decide +kernel) (pa_cons (pe_ix (r := rIxL K) ix_list (pv 0) pe_int (fun _ _ => rfl)) pa_nil))))
      (pss_cons (ps_set (i := 4) sc__law_draw.nd rfl (by first | exact Or.inl rfl | exact Or.inr rfl) (pe_ix (r := rIxL K) ix_list (pe_ix (r := rIxL K) ix_list (pv 0) pe_int (fun _ _ => rfl)) (pv 3) (fun _ _ => rfl)))
      (pss_cons (ps_if (pt_cmpR op_gt (pe_ix (r := rIxL K) ix_list (pe_ix (r := rIxL K) ix_list (pv 0) pe_int (fun _ _ => rfl)) (pv 3) (fun _ _ => rfl)) pe_int (nomark _)) (pss_cons (ps_set (i := 5) sc__law_draw.nd rfl (by first | exact Or.inl rfl | exact Or.inr rfl) (pe_op op_mod (pe_callTy c_int1 (by rfl) T.z_int (by decide +kernel) (pa_cons (pe_ix (r := rIxL K) ix_list (pe_ix (r := rIxL K) ix_list (pv 0) pe_int (fun _ _ => rfl)) (pv 3) (fun _ _ => rfl)) pa_nil)) (pv 1)))
      (pss_cons (ps_asg (pe_op op_fdivW (pe_ix (r := rIxL K) ix_list (pe_ix (r := rIxL K) ix_list (pv 0) pe_int (fun _ _ => rfl)) (pv 3) (fun _ _ => rfl)) (pv 1)) (pg_sub (pe_ix (r := rIxL K) ix_list (pv 0) pe_int (fun _ _ => rfl)) (pv 3) set_list))
      (pss_one (ps_ret (pv 5))))) pss_nil)
      (pss_cons (ps_set (i := 6) sc__law_draw.nd rfl (by first | exact Or.inl rfl | exact Or.inr rfl) (pe_op op_mod (pe_callTy c_int1 (by rfl) T.z_int (by decide +kernel) (pa_cons (pe_op op_mul (pe_op op_add (pe_op op_mod (pe_callTy c_int1 (by rfl) T.z_int (by decide +kernel) (pa_cons (pv 4) pa_nil)) pe_int) pe_int) (pe_op op_add (pv 2) pe_int)) pa_nil)) pe_int))
      (pss_cons (ps_set (i := 7) sc__law_draw.nd rfl (by first | exact Or.inl rfl | exact Or.inr rfl) (pe_op op_add (pe_op op_mod (pe_callTy c_int1 (by rfl) T.z_int (by decide +kernel) (pa_cons (pv 4) pa_nil)) pe_int) (pe_op op_mul pe_int (pv 2))))
      (pss_cons (ps_set (i := 8) sc__law_draw.nd rfl (by first | exact Or.inl rfl | exact Or.inr rfl) (pe_op op_mod (pe_callTy c_int1 (by rfl) T.z_int (by decide +kernel) (pa_cons (pe_op op_add (pe_op op_add (pe_op op_mul (pv 6) (pv 6)) (pe_op op_mul pe_int (pv 6))) (pv 7)) pa_nil)) pe_int))
      (pss_cons (ps_set (i := 9) sc__law_draw.nd rfl (by first | exact Or.inl rfl | exact Or.inr rfl) (pe_op op_add (pe_op op_mul (pe_op op_mod (pe_callTy c_int1 (by rfl) T.z_int (by decide +kernel) (pa_cons (pv 8) pa_nil)) pe_int) pe_int) (pe_op op_mul (pe_op op_fdivW (pv 8) pe_int) pe_int)))
      (pss_cons (ps_set (i := 10) sc__law_draw.nd rfl (by first | exact Or.inl rfl | exact Or.inr rfl) (pe_op op_mod (pe_callTy c_int1 (by rfl) T.z_int (by decide +kernel) (pa_cons (pe_op op_add (pv 9) (pv 6)) pa_nil)) pe_int))
      (pss_cons (ps_if (pt_cmpR op_le (pv 1) pe_int (nomark _)) (pss_one (ps_ret (pe_op op_mod (pe_callTy c_int1 (by rfl) T.z_int (by decide +kernel) (pa_cons (pv 10) pa_nil)) (pv 1)))) pss_nil)
      (pss_one (ps_ret (pe_op op_mod (pe_callTy c_int1 (by rfl) T.z_int (by decide +kernel) (pa_cons (pe_op op_add (pe_op op_mul (pv 10) pe_int) (pv 8)) pa_nil)) (pv 1))))))))))))))), ?_⟩
    try simp only [nox_K, cx_K]
    wtm_at "rd"
    refine r_setL (n := 2) h1 rfl ?_
    have g1 : (upd H d (.lst ([.ref c, .ref r, .int t].set 2 (.int (t + 1))))) d = some (.lst [.ref c, .ref r, .int (t + 1)]) := upd_same
    have g2 : (upd H d (.lst ([.ref c, .ref r, .int t].set 2 (.int (t + 1))))) c = some (.lst (ns.map V.int)) := (upd_ne dc.symm).trans h2
    have g3 : (upd H d (.lst ([.ref c, .ref r, .int t].set 2 (.int (t + 1))))) r = some (.lst (rs.map V.int)) := (upd_ne dr.symm).trans h3
    have e1 : Ext d r H (upd H d (.lst ([.ref c, .ref r, .int t].set 2 (.int (t + 1))))) := fun b o e n1 n2 => (upd_ne n1).trans e
    revert g1 g2 g3 e1
    generalize (upd H d (.lst ([.ref c, .ref r, .int t].set 2 (.int (t + 1))))) = H1
    intro g1 g2 g3 e1
    wtm_at "rd"
    refine r_lenI g2 ?_
    refine r_mod (by omega) fun at_ a0 a1 _ => ?_
    wtm_at "rd"
    refine r_ite (fun c1 => ?_) (fun c1 => ?_)
    · wtm_at "rd"
      refine r_mod m0 fun k k0 k1 _ => ?_
      wtm_at "rd"
      refine r_fdiv m0 m1 fun z z0 _ => ?_
      wtm_at "rd"
      refine r_setL g3 (ixn_in a0 (by rw [List.length_map]; omega)) ?_
      wtm_at "rd"
      refine q k _ k0 k1 ⟨dc, dr, cr, ns, rs.set at_.toNat z, t + 1, (upd_ne dr).trans g1, (upd_ne cr).trans g2, ?_, ?_, hp, by omega, ?_⟩ (fun b o e n1 n2 => (upd_ne n2).trans (e1 b o e n1 n2))
      · rw [upd_same, List.map_set]
      · rw [List.length_set]; exact hl
      · intro x hx
        rcases List.mem_or_eq_of_mem_set hx with e | e
        · exact hn x e
        · rw [e]; exact z0 (by omega)
    · wtm_at "rd"
      refine r_mod (by decide) fun x1 l1 u1 _ => ?_
      wtm_at "rd"
      refine r_mul (.inl ⟨by omega, by omega⟩) fun x2 _ => ?_
      wtm_at "rd"
      refine r_mod (by decide) fun first f0 f1 _ => ?_
      wtm_at "rd"
      refine r_mod (by decide) fun x3 l3 u3 _ => ?_
      wtm_at "rd"
      refine r_mul (.inl ⟨by omega, by omega⟩) fun x4 _ => ?_
      wtm_at "rd"
      refine r_mul (.inl ⟨by omega, by omega⟩) fun x5 _ => ?_
      wtm_at "rd"
      refine r_mul (.inl ⟨by omega, by omega⟩) fun x6 _ => ?_
      wtm_at "rd"
      refine r_mod (by decide) fun second s0 s1 _ => ?_
      wtm_at "rd"
      refine r_mod (by decide) fun x7 l7 u7 _ => ?_
      wtm_at "rd"
      refine r_mul (.inl ⟨by omega, by omega⟩) fun x8 _ => ?_
      wtm_at "rd"
      refine r_fdiv (by decide) (by decide) fun x9 _ _ => ?_
      wtm_at "rd"
      refine r_mul (.inr ⟨by omega, by omega⟩) fun x10 _ => ?_
      wtm_at "rd"
      refine r_mod (by decide) fun third t0 t1 _ => ?_
      wtm_at "rd"
      refine r_ite (fun c2 => ?_) (fun c2 => ?_)
      · wtm_at "rd"
        refine r_mod m0 fun k k0 k1 _ => ?_
        exact q k _ k0 k1 ⟨dc, dr, cr, ns, rs, t + 1, g1, g2, g3, hl, hp, by omega, hn⟩ e1
      · wtm_at "rd"
        refine r_mul (.inl ⟨by omega, by omega⟩) fun x11 _ => ?_
        wtm_at "rd"
        refine r_mod m0 fun k k0 k1 _ => ?_
        exact q k _ k0 k1 ⟨dc, dr, cr, ns, rs, t + 1, g1, g2, g3, hl, hp, by omega, hn⟩ e1
theorem ok__law_begin (T : Txt K mg) : FnOk P w K mg base CX0 1 T.f__law_begin T.d__law_begin ["_law_script"] (spBegin K) := by
  refine T.F__law_begin.ok sc__law_begin (fun vs H Q E h => ?_) (fun cdv A outer s H vs Q E hr h => ?_)
  · obtain ⟨a, ns, rfl, _⟩ := h
    rfl
  obtain ⟨a, ns, rfl, hS, hlen, q⟩ := h
  refine ⟨_, (pss_cons (ps_setLc (i := 1) (own := [("_law_cell", 2)]) (g := gName 2) (tt := tYes) rfl sc__law_begin.nd rfl rfl (sw_true rfl rfl rfl (by decide +kernel)) (pi_list (pe_slice sl_list (pv 0) po_none (po_some pe_int))) (blkOk_by (N := ["_law_script", "_law_cells", "_law_cell"]) (sc := defScope s__law_begin) (by decide +kernel)) (fun _ _ _ _ _ => pg_name (i := 2) sc__law_begin.nd rfl (by first | exact Or.inl rfl | exact Or.inr rfl)) (fun _ _ _ _ _ => pts_nil) (fun _ _ _ _ _ => (pe_callTy c_int1 (by rfl) T.z_int (by decide +kernel) (pa_cons (pv 2) pa_nil))))
      (C8.pss_cut (ps_if (pt_cmpR op_eq (pe_callB (r := rLenL K) (id := "len") c_len (by rfl) T.z_len (by decide +kernel) (pa_cons (pv 1) pa_nil)) pe_int (nomark _)) (pss_one (ps_set (i := 1) sc__law_begin.nd rfl (by first | exact Or.inl rfl | exact Or.inr rfl) (pe_lst (pa_cons pe_int pa_nil)))) pss_nil)
      (pss_one (ps_ret (pe_lst (pa_cons (pv 1) (pa_cons (pe_lc (own := [("_law_cell", 2)]) (g := gName 2) (tt := tYes) rfl sc__law_begin.nd (pi_list (pv 1)) (blkOk_by (N := ["_law_script", "_law_cells", "_law_cell"]) (sc := defScope s__law_begin) (by decide +kernel)) (fun _ _ _ _ _ => pg_name (i := 2) sc__law_begin.nd rfl (by first | exact Or.inl rfl | exact Or.inr rfl)) (fun _ _ _ _ _ => pts_nil) (fun _ _ _ _ _ => (pe_op op_mul (pe_callB c_abs (by rfl) T.z_abs (by decide +kernel) (pa_cons (pv 2) pa_nil)) (pe_callTy c_intB (by rfl) T.z_int (by decide +kernel) (pa_cons (pe_cmpR op_ge (pe_callB c_abs (by rfl) T.z_abs (by decide +kernel) (pa_cons (pv 2) pa_nil)) (pe_op op_pow pe_int pe_int) (nomark _)) pa_nil))))) (pa_cons pe_int pa_nil)))))))), ?_⟩
  try simp only [nox_K, cx_K]
  wtm_at "rd"
  refine r_slL hS fun p np => ?_
  have s1 : Same H (upd H p (.lst (cutV (ns.map V.int) none (some 63)))) := same_new np
  have e0 : cutV (ns.map V.int) none (some 63) = ns.map V.int := cut_none (n := 63) (by rw [List.length_map]; exact hlen)
  rw [e0] at s1 ⊢
  have hp : (upd H p (.lst (ns.map V.int))) p = some (.lst (ns.map V.int)) := upd_same
  refine r_itl (SqL.of hp) ?_
  refine lc_map (fun x => x) (SqL.of hp) (by rw [List.length_map]; omega) (fun x H' QQ hx s' hQ => ?_) (fun c nc => ?_)
  · obtain ⟨y, _, rfl⟩ := List.mem_map.mp hx
    wtm_at "rd"
    exact hQ
  have s2 := s1.trans (same_new (o := .lst ((ns.map V.int).map fun x => x)) nc)
  have hc : (upd (upd H p (.lst (ns.map V.int))) c (.lst ((ns.map V.int).map fun x => x))) c = some (.lst (ns.map V.int)) := by rw [upd_same, List.map_id']
  revert s2 hc
  generalize (upd (upd H p (.lst (ns.map V.int))) c (.lst ((ns.map V.int).map fun x => x))) = H2
  intro s2 hc
  wtm_at "rd"
  refine ⟨fun σ H1 => ∃ (c : Addr) (ms : List Int) (x3 : Option V), σ = [some (.ref a), some (.ref c), x3] ∧ H1 c = some (.lst (ms.map V.int)) ∧ 0 < ms.length ∧ ms.length ≤ 63 ∧ Same H H1 ∧ H c = none, ?_, ?_⟩
  · wtm_at "rd"
    refine r_lenI hc ?_
    wtm_at "rd"
    refine r_ite (fun e => ?_) (fun e => ?_)
    · wtm_at "rd"
      refine r_new rfl fun c2 nc2 => ?_
      wtm_at "rd"
      exact ⟨c2, [0], _, rfl, upd_same, by decide, by decide, s2.trans (same_new nc2), s2.free nc2⟩
    · wtm_at "rd"
      exact ⟨c, ns, _, rfl, hc, by omega, hlen, s2, s1.free nc⟩
  rintro σ H1 ⟨c, ms, x3, rfl, hc, h0, h63, s1, nc⟩
  wtm_at "rd"
  refine r_itl (SqL.of hc) ?_
  refine lc_map restOf (SqL.of hc) (by rw [List.length_map]; omega) (fun x H' QQ hx s' hQ => ?_) (fun r nr => ?_)
  · obtain ⟨y, _, rfl⟩ := List.mem_map.mp hx
    wtm_at "rd"
    refine r_I ⟨by decide, by decide, by decide⟩ ?_
    wtm_at "rd"
    exact r_I (.inr bit_ok) hQ
  have s2 : Same H1 (upd H1 r (.lst ((ms.map V.int).map restOf))) := same_new nr
  wtm_at "rd"
  refine r_new rfl fun d nd => ?_
  have hd : H d = none := (s1.trans s2).free nd
  have hcr : c ≠ r := ne_of_none hc nr
  have hdc : d ≠ c := (ne_of_none (s2 _ _ hc) nd).symm
  have hdr : d ≠ r := (ne_of_none (upd_same (H := H1) (a := r)) nd).symm
  refine q d c r _ ⟨hdc, hdr, hcr, ms, ms.map restI, 0, upd_same, ?_, ?_, ?_, h0, by decide, ?_⟩ ((s1.trans s2).trans (same_new nd)) hd nc (s1.free nr)
  · rw [upd_ne hdc.symm]; exact s2 _ _ hc
  · rw [upd_ne hdr.symm, upd_same, rest_map]
  · rw [List.length_map]
  · intro x hx
    obtain ⟨y, _, rfl⟩ := List.mem_map.mp hx
    exact rest_nn y
end
def seF (aw : Addr) (n : Nat) (au : Addr) (av : Addr) (ap : Addr) : List (Str × V) := putF "holders" (.ref ap) (putF "place_costs" (.ref av) (putF "member_costs" (.ref au) (putF "many" (.int (n : Int)) (putF "weights" (.ref aw) []))))
theorem se_weights (aw : Addr) (n : Nat) (au : Addr) (av : Addr) (ap : Addr) : (seF aw n au av ap).lookup ("weights" : Str) = some ((.ref aw)) := by
  unfold seF
  rw [lookup_putF, if_neg (by decide +kernel), lookup_putF, if_neg (by decide +kernel), lookup_putF, if_neg (by decide +kernel), lookup_putF, if_neg (by decide +kernel), lookup_putF, if_pos rfl]
theorem se_many (aw : Addr) (n : Nat) (au : Addr) (av : Addr) (ap : Addr) : (seF aw n au av ap).lookup ("many" : Str) = some ((.int (n : Int))) := by
  unfold seF
  rw [lookup_putF, if_neg (by decide +kernel), lookup_putF, if_neg (by decide +kernel), lookup_putF, if_neg (by decide +kernel), lookup_putF, if_pos rfl]
theorem se_member_costs (aw : Addr) (n : Nat) (au : Addr) (av : Addr) (ap : Addr) : (seF aw n au av ap).lookup ("member_costs" : Str) = some ((.ref au)) := by
  unfold seF
  rw [lookup_putF, if_neg (by decide +kernel), lookup_putF, if_neg (by decide +kernel), lookup_putF, if_pos rfl]
theorem se_place_costs (aw : Addr) (n : Nat) (au : Addr) (av : Addr) (ap : Addr) : (seF aw n au av ap).lookup ("place_costs" : Str) = some ((.ref av)) := by
  unfold seF
  rw [lookup_putF, if_neg (by decide +kernel), lookup_putF, if_pos rfl]
theorem se_holders (aw : Addr) (n : Nat) (au : Addr) (av : Addr) (ap : Addr) : (seF aw n au av ap).lookup ("holders" : Str) = some ((.ref ap)) := by
  unfold seF
  rw [lookup_putF, if_pos rfl]
theorem se_no (aw : Addr) (n : Nat) (au : Addr) (av : Addr) (ap : Addr) {m : Str} (h0 : ¬ m = "holders") (h1 : ¬ m = "place_costs") (h2 : ¬ m = "member_costs") (h3 : ¬ m = "many") (h4 : ¬ m = "weights") : (seF aw n au av ap).lookup m = none := by
  unfold seF
  rw [lookup_putF, if_neg h0, lookup_putF, if_neg h1, lookup_putF, if_neg h2, lookup_putF, if_neg h3, lookup_putF, if_neg h4]
  rfl
def maF (pl : Addr) (t : Int) (mp : Addr) (pp : Addr) : List (Str × V) := putF "place_prices" (.ref pp) (putF "member_prices" (.ref mp) (putF "total" (.int t) (putF "places" (.ref pl) [])))
theorem ma_places (pl : Addr) (t : Int) (mp : Addr) (pp : Addr) : (maF pl t mp pp).lookup ("places" : Str) = some ((.ref pl)) := by
  unfold maF
  rw [lookup_putF, if_neg (by decide +kernel), lookup_putF, if_neg (by decide +kernel), lookup_putF, if_neg (by decide +kernel), lookup_putF, if_pos rfl]
theorem ma_total (pl : Addr) (t : Int) (mp : Addr) (pp : Addr) : (maF pl t mp pp).lookup ("total" : Str) = some ((.int t)) := by
  unfold maF
  rw [lookup_putF, if_neg (by decide +kernel), lookup_putF, if_neg (by decide +kernel), lookup_putF, if_pos rfl]
theorem ma_member_prices (pl : Addr) (t : Int) (mp : Addr) (pp : Addr) : (maF pl t mp pp).lookup ("member_prices" : Str) = some ((.ref mp)) := by
  unfold maF
  rw [lookup_putF, if_neg (by decide +kernel), lookup_putF, if_pos rfl]
theorem ma_place_prices (pl : Addr) (t : Int) (mp : Addr) (pp : Addr) : (maF pl t mp pp).lookup ("place_prices" : Str) = some ((.ref pp)) := by
  unfold maF
  rw [lookup_putF, if_pos rfl]
theorem ma_no (pl : Addr) (t : Int) (mp : Addr) (pp : Addr) {m : Str} (h0 : ¬ m = "place_prices") (h1 : ¬ m = "member_prices") (h2 : ¬ m = "total") (h3 : ¬ m = "places") : (maF pl t mp pp).lookup m = none := by
  unfold maF
  rw [lookup_putF, if_neg h0, lookup_putF, if_neg h1, lookup_putF, if_neg h2, lookup_putF, if_neg h3]
  rfl

open Hg
abbrev cW := Hg.wCost
structure Ad where
  x : Addr
  dx : Addr
  aw : Addr
  au : Addr
  av : Addr
  ap : Addr
  al : Addr
  ab : Addr
  as : Addr
abbrev Ow (C : Addr) (z : Ad) (rows : List Addr) (n : Nat) (u v : Nat → Int) (p : Nat → Nat) : List (Addr × HO) := [(z.x, .ins C z.dx (seF z.aw n z.au z.av z.ap)), (z.aw, .lst (rows.map V.ref)), (z.au, .lst (intF u (n + 1))), (z.av, .lst (intF v (n + 1))), (z.ap, .lst (natF p (n + 1)))]
abbrev Fl (C : Addr) (z : Ad) (rows : List Addr) (n : Nat) (p : Nat → Nat) (u v : Nat → Int) (L : Nat → Option Int) (B : Nat → Nat) (us : Nat → Bool) : List (Addr × HO) := [(z.x, .ins C z.dx (seF z.aw n z.au z.av z.ap)), (z.aw, .lst (rows.map V.ref)), (z.au, .lst (intF u (n + 1))), (z.av, .lst (intF v (n + 1))), (z.ap, .lst (natF p (n + 1))), (z.al, .lst (optF L (n + 1))), (z.ab, .lst (natF B (n + 1))), (z.as, .lst (boolF us (n + 1)))]
/-- all but some stays -/
def KeepX (ms : List Addr) (H H' : Hp) : Prop := ∀ b o, H b = some o → b ∉ ms → H' b = some o
theorem KeepX.refl {ms : List Addr} {H : Hp} : KeepX ms H H := fun _ _ e _ => e
theorem KeepX.trans {ms : List Addr} {H H1 H2 : Hp} (a : KeepX ms H H1) (b : KeepX ms H1 H2) : KeepX ms H H2 := fun c o e n => b c o (a c o e n) n
theorem KeepX.put {ms : List Addr} {H H1 : Hp} {a : Addr} {o : HO} (h : KeepX ms H H1) (m : a ∈ ms) : KeepX ms H (upd H1 a o) := fun b o' e n => (upd_ne (fun z => n (by rw [z]; exact m))).trans (h b o' e n)
theorem KeepX.free {a b : Addr} {H H' : Hp} {o : HO} (h : KeepX [a] H H') (ha : H' a = some o) (n : H' b = none) : H b = none := by
  cases e : H b with
  | none => rfl
  | some o' =>
    have ne : b ∉ [a] := fun z => by rw [List.mem_singleton.mp z, ha] at n; cases n
    have z := h b o' e ne
    rw [n] at z
    cases z
theorem KeepX.of {ms : List Addr} {H H' : Hp} (s : Same H H') : KeepX ms H H' := fun b o e _ => s b o e
theorem KeepX.up {ms ms' : List Addr} {H H' : Hp} (h : KeepX ms H H') (s : ∀ a ∈ ms, a ∈ ms') : KeepX ms' H H' := fun b o e n => h b o e fun z => n (s b z)
def spMaInit (C : Addr) : Sp := fun vs H Q _ => ∃ (x dx pl mp pp : Addr) (t : Int), vs = [.ref x, .ref pl, .int t, .ref mp, .ref pp] ∧ H x = some (.ins C dx []) ∧ Q .non (upd H x (.ins C dx (maF pl t mp pp)))
def spSeInit (C : Addr) : Sp := fun vs H Q _ => ∃ (x dx aw : Addr) (rows : List Addr) (n : Nat) (w : Nat → Nat → Int), vs = [.ref x, .ref aw] ∧ H x = some (.ins C dx []) ∧ H aw = some (.lst (rows.map V.ref)) ∧ aw ≠ x ∧ rows.length = n ∧ n ≤ 100 ∧ (∀ i r, rows[i]? = some r → r ≠ x ∧ r ≠ aw ∧ H r = some (.lst (intF (w i) n))) ∧
  ∀ (z : Ad) (H' : Hp), z.x = x → z.aw = aw → Hs (Ow C z rows n (fun _ => 0) (fun _ => 0) (fun _ => 0)) rows n w H' → KeepX [x] H H' → (H z.au = none ∧ H z.av = none ∧ H z.ap = none) → Q .non H'
def spSlack (C : Addr) : Sp := fun vs H Q _ => ∃ (z : Ad) (rows : List Addr) (n : Nat) (w : Nat → Nat → Int) (p : Nat → Nat) (u v : Nat → Int) (L : Nat → Option Int) (B : Nat → Nat) (us : Nat → Bool) (i j : Nat), vs = [.ref z.x, .int (i : Int), .int (j : Int)] ∧ Hs (Fl C z rows n p u v L B us) rows n w H ∧ 1 ≤ i ∧ i ≤ n ∧ 1 ≤ j ∧ j ≤ n ∧ n ≤ 100 ∧ Q (.int (sl (cW w) u v i j)) H
def pV (us : Nat → Bool) (d : Int) (v : Nat → Int) (k : Nat) : Nat → Int := fun q => if q < k ∧ us q = true then v q - d else v q
def pL (us : Nat → Bool) (d : Int) (L : Nat → Option Int) (k : Nat) : Nat → Option Int := fun q => if q < k ∧ us q = false then (L q).map (· - d) else L q
theorem pV_on {us : Nat → Bool} {d : Int} {v : Nat → Int} {k : Nat} (h : us k = true) : fset (pV us d v k) k (pV us d v k k - d) = pV us d v (k + 1) := by
  funext q
  unfold fset pV
  by_cases e : q = k
  · rw [if_pos e, e, if_neg (fun z => absurd z.1 (Nat.lt_irrefl _)), if_pos ⟨Nat.lt_succ_self k, h⟩]
  · rw [if_neg e]
    by_cases c : q < k ∧ us q = true
    · rw [if_pos c, if_pos ⟨by omega, c.2⟩]
    · rw [if_neg c, if_neg (fun y => c ⟨by omega, y.2⟩)]
theorem pV_off {us : Nat → Bool} {d : Int} {v : Nat → Int} {k : Nat} (h : us k = false) : pV us d v k = pV us d v (k + 1) := by
  funext q
  unfold pV
  by_cases c : q < k ∧ us q = true
  · rw [if_pos c, if_pos ⟨by omega, c.2⟩]
  · rw [if_neg c, if_neg (fun y => c ⟨by
      have : q ≠ k := fun z => by rw [z, h] at y; exact Bool.false_ne_true y.2
      omega, y.2⟩)]
theorem pL_off {us : Nat → Bool} {d : Int} {L : Nat → Option Int} {k : Nat} (h : us k = true) : pL us d L k = pL us d L (k + 1) := by
  funext q
  unfold pL
  by_cases c : q < k ∧ us q = false
  · rw [if_pos c, if_pos ⟨by omega, c.2⟩]
  · rw [if_neg c, if_neg (fun y => c ⟨by
      have : q ≠ k := fun z => by rw [z, h] at y; exact Bool.noConfusion y.2
      omega, y.2⟩)]
theorem pL_on {us : Nat → Bool} {d l : Int} {L : Nat → Option Int} {k : Nat} (h : us k = false) (hl : L k = some l) : fset (pL us d L k) k (some (l - d)) = pL us d L (k + 1) := by
  funext q
  unfold fset pL
  by_cases e : q = k
  · rw [if_pos e, e, if_pos ⟨Nat.lt_succ_self k, h⟩, hl]
    rfl
  · rw [if_neg e]
    by_cases c : q < k ∧ us q = false
    · rw [if_pos c, if_pos ⟨by omega, c.2⟩]
    · rw [if_neg c, if_neg (fun y => c ⟨by omega, y.2⟩)]
theorem pL_self {us : Nat → Bool} {d : Int} {L : Nat → Option Int} {k : Nat} : pL us d L k k = L k := if_neg fun z => absurd z.1 (Nat.lt_irrefl _)
theorem pV_self {us : Nat → Bool} {d : Int} {v : Nat → Int} {k : Nat} : pV us d v k k = v k := if_neg fun z => absurd z.1 (Nat.lt_irrefl _)
theorem intF_pV {us : Nat → Bool} {d : Int} {v : Nat → Int} {n : Nat} : intF (pV us d v n) n = intF (shV us d v) n := lsF_congr fun q hq => by
  unfold pV shV
  by_cases c : us q = true
  · rw [if_pos ⟨hq, c⟩, if_pos c]
  · rw [if_neg (fun y => c y.2), if_neg c]
theorem optF_pL {us : Nat → Bool} {d : Int} {L : Nat → Option Int} {n : Nat} : optF (pL us d L n) n = optF (shL us d L) n := lsF_congr fun q hq => by
  unfold pL shL
  by_cases c : us q = true
  · rw [if_neg (fun y => by rw [c] at y; exact Bool.noConfusion y.2), if_pos c]
  · rw [if_pos ⟨hq, Bool.eq_false_iff.mpr c⟩, if_neg c]
def spShift (C : Addr) : Sp := fun vs H Q _ => ∃ (z : Ad) (rows : List Addr) (n : Nat) (w : Nat → Nat → Int) (p : Nat → Nat) (u v : Nat → Int) (L : Nat → Option Int) (B : Nat → Nat) (us : Nat → Bool) (d : Int), vs = [.ref z.x, .ref z.as, .ref z.al, .int d] ∧ Hs (Fl C z rows n p u v L B us) rows n w H ∧ n ≤ 100 ∧ (∀ q, q ≤ n → us q = true → p q ≤ n) ∧ (∀ q, q ≤ n → us q = false → ∃ l, L q = some l) ∧
  ∀ H', Hs (Fl C z rows n p (shU us p d u (n + 1)) (shV us d v) (shL us d L) B us) rows n w H' → KeepX [z.au, z.av, z.al] H H' → Q .non H'
theorem row_at {l : List (Addr × HO)} {rows : List Addr} {n : Nat} {w : Nat → Nat → Int} {H : Hp} (h : Hs l rows n w H) {i : Nat} (hi : i < n) : ∃ r, atI (rows.map V.ref) (i : Int) = some (.ref r) ∧ H r = some (.lst (intF (w i) n)) := by
  have hr : rows[i]? = some (rows[i]'(by rw [h.len]; exact hi)) := List.getElem?_eq_getElem _
  exact ⟨_, atI_nat (by rw [List.getElem?_map, hr]; rfl), (h.row i _ hr).2⟩
section
variable {P : Program} {w : World} {K : PySem.W.Frag} {mg : Str → Option Value} {base : Heap}

theorem ok_Matching___init__ (T : Txt K mg) : FnOk P w K mg base CX0 1 T.f_Matching___init__ T.d_Matching___init__ ["self", "places", "total", "member_prices", "place_prices"] (spMaInit T.C_Matching) := by
  refine T.F_Matching___init__.ok sc_Matching___init__ (fun vs H Q E h => ?_) (fun cdv A outer s H vs Q E hr h => ?_)
  · obtain ⟨x, dx, pl, mp, pp, t, rfl, _⟩ := h
    rfl
  obtain ⟨x, dx, pl, mp, pp, t, rfl, hx, q⟩ := h
  refine ⟨_, (pss_cons (ps_fld (pv 0) (pv 1) rfl)
      (pss_cons (ps_fld (pv 0) (pv 2) rfl)
      (pss_cons (ps_fld (pv 0) (pv 3) rfl)
      (pss_one (ps_fld (pv 0) (pv 4) rfl))))), ?_⟩
  try simp only [nox_K, cx_K]
  wtm_at "rd"
  refine r_put hx T.c_Matching T.nf_Matching_places (by decide) ?_
  wtm_at "rd"
  refine r_put upd_same T.c_Matching T.nf_Matching_total (Nat.lt_of_le_of_lt (putF_len _ _ _) (by decide)) ?_
  wtm_at "rd"
  refine r_put upd_same T.c_Matching T.nf_Matching_member_prices (Nat.lt_of_le_of_lt (putF_len _ _ _) (Nat.lt_of_le_of_lt (Nat.succ_le_succ (putF_len _ _ _)) (by decide))) ?_
  wtm_at "rd"
  refine r_put upd_same T.c_Matching T.nf_Matching_place_prices (Nat.lt_of_le_of_lt (putF_len _ _ _) (Nat.lt_of_le_of_lt (Nat.succ_le_succ (putF_len _ _ _)) (Nat.lt_of_le_of_lt (Nat.succ_le_succ (Nat.succ_le_succ (putF_len _ _ _))) (by decide)))) ?_
  wtm_at "rd"
  rw [upd_upd, upd_upd, upd_upd]
  exact q
theorem ok_Search___init__ (T : Txt K mg) : FnOk P w K mg base CX0 1 T.f_Search___init__ T.d_Search___init__ ["self", "weights"] (spSeInit T.C_Search) := by
  refine T.F_Search___init__.ok sc_Search___init__ (fun vs H Q E h => ?_) (fun cdv A outer s H vs Q E hr h => ?_)
  · obtain ⟨x, dx, aw, rows, n, w, rfl, _⟩ := h
    rfl
  obtain ⟨x, dx, aw, rows, n, w, rfl, hx, haw, hne, hlen, n1, hrows, q⟩ := h
  refine ⟨_, (pss_cons (ps_fld (pv 0) (pv 1) rfl)
      (pss_cons (ps_fld (pv 0) (pe_callB (r := rLenL K) (id := "len") c_len (by rfl) T.z_len (by decide +kernel) (pa_cons (pv 1) pa_nil)) rfl)
      (pss_cons (ps_fld (pv 0) (pe_op op_rep (pe_lst (pa_cons pe_int pa_nil)) (pe_op op_add (pe_fldK (K := K) (pv 0)) pe_int)) rfl)
      (pss_cons (ps_fld (pv 0) (pe_op op_rep (pe_lst (pa_cons pe_int pa_nil)) (pe_op op_add (pe_fldK (K := K) (pv 0)) pe_int)) rfl)
      (pss_one (ps_fld (pv 0) (pe_op op_rep (pe_lst (pa_cons pe_int pa_nil)) (pe_op op_add (pe_fldK (K := K) (pv 0)) pe_int)) rfl)))))), ?_⟩
  try simp only [nox_K, cx_K]
  have L1 : ∀ (f : Str) (v : V), (putF f v []).length < 1000 := fun f v => Nat.lt_of_le_of_lt (putF_len _ _ _) (by decide)
  have L2 : ∀ (f f2 : Str) (v v2 : V), (putF f v (putF f2 v2 [])).length < 1000 := fun f f2 v v2 => Nat.lt_of_le_of_lt (putF_len _ _ _) (Nat.lt_of_le_of_lt (Nat.succ_le_succ (putF_len _ _ _)) (by decide))
  have L3 : ∀ (f f2 f3 : Str) (v v2 v3 : V), (putF f v (putF f2 v2 (putF f3 v3 []))).length < 1000 := fun f f2 f3 v v2 v3 => Nat.lt_of_le_of_lt (putF_len _ _ _) (Nat.lt_of_le_of_lt (Nat.succ_le_succ (putF_len _ _ _)) (Nat.lt_of_le_of_lt (Nat.succ_le_succ (Nat.succ_le_succ (putF_len _ _ _))) (by decide)))
  have L4 : ∀ (f f2 f3 f4 : Str) (v v2 v3 v4 : V), (putF f v (putF f2 v2 (putF f3 v3 (putF f4 v4 [])))).length < 1000 := fun f f2 f3 f4 v v2 v3 v4 => Nat.lt_of_le_of_lt (putF_len _ _ _) (Nat.lt_of_le_of_lt (Nat.succ_le_succ (putF_len _ _ _)) (Nat.lt_of_le_of_lt (Nat.succ_le_succ (Nat.succ_le_succ (putF_len _ _ _))) (Nat.lt_of_le_of_lt (Nat.succ_le_succ (Nat.succ_le_succ (Nat.succ_le_succ (putF_len _ _ _)))) (by decide))))
  have hs0 : Hs [(x, .ins T.C_Search dx []), (aw, .lst (rows.map V.ref))] rows n w H := by
    refine ⟨List.nodup_cons.mpr ⟨fun z => hne (List.mem_singleton.mp z).symm, List.nodup_cons.mpr ⟨List.not_mem_nil, List.nodup_nil⟩⟩, fun e he => ?_, hlen, fun i r hr => ?_⟩
    · rcases List.mem_cons.mp he with z | z
      · rw [z]; exact hx
      · rw [List.mem_singleton.mp z]; exact haw
    · obtain ⟨h1, h2, h3⟩ := hrows i r hr
      refine ⟨fun z => ?_, h3⟩
      rcases List.mem_cons.mp z with y | y
      · exact h1 y
      · exact h2 (List.mem_singleton.mp y)
  have E0 : KeepX [x] H H := KeepX.refl
  wtm_at "rd"
  refine r_put hx T.c_Search T.nf_Search_weights (by decide) ?_
  have hs1 := hs0.put 0 rfl (o' := .ins T.C_Search dx (putF "weights" (.ref aw) []))
  have E1 := E0.put (a := x) (o := .ins T.C_Search dx (putF "weights" (.ref aw) [])) List.mem_cons_self
  revert hs1 E1
  generalize upd H x _ = H1
  intro hs1 E1
  wtm_at "rd"
  refine r_lenR (hs1.get 1 rfl) ?_
  wtm_at "rd"
  refine r_put (hs1.get 0 rfl) T.c_Search T.nf_Search_many (L1 _ _) ?_
  rw [hlen]
  have hs2 := hs1.put 0 rfl (o' := .ins T.C_Search dx (putF "many" (.int (n : Int)) (putF "weights" (.ref aw) [])))
  have E2 := E1.put (a := x) (o := .ins T.C_Search dx (putF "many" (.int (n : Int)) (putF "weights" (.ref aw) []))) List.mem_cons_self
  revert hs2 E2
  generalize upd H1 x _ = H2
  intro hs2 E2
  wtm_at "rd"
  refine r_new rfl fun c0 n_c0 => ?_
  generalize eq_c0 : upd _ c0 _ = G0
  have s_c0 : Same _ G0 := eq_c0 ▸ same_new n_c0
  have h_c0 : G0 c0 = some _ := eq_c0 ▸ upd_same
  clear eq_c0
  have hs2 := hs2.same s_c0
  have E2 := E2.trans (KeepX.of s_c0)
  wtm_at "rd"
  refine r_get (hs2.get 0 rfl) T.c_Search T.nf_Search_many (by rw [lookup_putF, if_pos rfl]) ?_
  wtm_at "rd"
  rw [show ((n : Int) + 1) = ((n + 1 : Nat) : Int) by omega]
  refine r_rep h_c0 (by omega) fun au n_au => ?_
  have f_au : H au = none := E2.free (hs2.get 0 rfl) n_au
  have hs2 := hs2.push (o := .lst (lsF (fun _ => .int 0) (n + 1))) n_au (same_new n_au) upd_same
  have E2 := E2.trans (KeepX.of (same_new (o := .lst (lsF (fun _ => .int 0) (n + 1))) n_au))
  revert hs2 E2
  generalize upd G0 au _ = I0
  intro hs2 E2
  wtm_at "rd"
  refine r_put (hs2.get 0 rfl) T.c_Search T.nf_Search_member_costs (L2 _ _ _ _) ?_
  have hs2 := hs2.put 0 rfl (o' := .ins T.C_Search dx (putF "member_costs" (.ref au) (putF "many" (.int (n : Int)) (putF "weights" (.ref aw) []))))
  have E2 := E2.put (a := x) (o := .ins T.C_Search dx (putF "member_costs" (.ref au) (putF "many" (.int (n : Int)) (putF "weights" (.ref aw) [])))) List.mem_cons_self
  revert hs2 E2
  generalize upd I0 x _ = J0
  intro hs2 E2
  wtm_at "rd"
  refine r_new rfl fun c1 n_c1 => ?_
  generalize eq_c1 : upd _ c1 _ = G1
  have s_c1 : Same _ G1 := eq_c1 ▸ same_new n_c1
  have h_c1 : G1 c1 = some _ := eq_c1 ▸ upd_same
  clear eq_c1
  have hs2 := hs2.same s_c1
  have E2 := E2.trans (KeepX.of s_c1)
  wtm_at "rd"
  refine r_get (hs2.get 0 rfl) T.c_Search T.nf_Search_many (by rw [lookup_putF, if_neg (by decide +kernel), lookup_putF, if_pos rfl]) ?_
  wtm_at "rd"
  rw [show ((n : Int) + 1) = ((n + 1 : Nat) : Int) by omega]
  refine r_rep h_c1 (by omega) fun av n_av => ?_
  have f_av : H av = none := E2.free (hs2.get 0 rfl) n_av
  have hs2 := hs2.push (o := .lst (lsF (fun _ => .int 0) (n + 1))) n_av (same_new n_av) upd_same
  have E2 := E2.trans (KeepX.of (same_new (o := .lst (lsF (fun _ => .int 0) (n + 1))) n_av))
  revert hs2 E2
  generalize upd G1 av _ = I1
  intro hs2 E2
  wtm_at "rd"
  refine r_put (hs2.get 0 rfl) T.c_Search T.nf_Search_place_costs (L3 _ _ _ _ _ _) ?_
  have hs2 := hs2.put 0 rfl (o' := .ins T.C_Search dx (putF "place_costs" (.ref av) (putF "member_costs" (.ref au) (putF "many" (.int (n : Int)) (putF "weights" (.ref aw) [])))))
  have E2 := E2.put (a := x) (o := .ins T.C_Search dx (putF "place_costs" (.ref av) (putF "member_costs" (.ref au) (putF "many" (.int (n : Int)) (putF "weights" (.ref aw) []))))) List.mem_cons_self
  revert hs2 E2
  generalize upd I1 x _ = J1
  intro hs2 E2
  wtm_at "rd"
  refine r_new rfl fun c2 n_c2 => ?_
  generalize eq_c2 : upd _ c2 _ = G2
  have s_c2 : Same _ G2 := eq_c2 ▸ same_new n_c2
  have h_c2 : G2 c2 = some _ := eq_c2 ▸ upd_same
  clear eq_c2
  have hs2 := hs2.same s_c2
  have E2 := E2.trans (KeepX.of s_c2)
  wtm_at "rd"
  refine r_get (hs2.get 0 rfl) T.c_Search T.nf_Search_many (by rw [lookup_putF, if_neg (by decide +kernel), lookup_putF, if_neg (by decide +kernel), lookup_putF, if_pos rfl]) ?_
  wtm_at "rd"
  rw [show ((n : Int) + 1) = ((n + 1 : Nat) : Int) by omega]
  refine r_rep h_c2 (by omega) fun ap n_ap => ?_
  have f_ap : H ap = none := E2.free (hs2.get 0 rfl) n_ap
  have hs2 := hs2.push (o := .lst (lsF (fun _ => .int 0) (n + 1))) n_ap (same_new n_ap) upd_same
  have E2 := E2.trans (KeepX.of (same_new (o := .lst (lsF (fun _ => .int 0) (n + 1))) n_ap))
  revert hs2 E2
  generalize upd G2 ap _ = I2
  intro hs2 E2
  wtm_at "rd"
  refine r_put (hs2.get 0 rfl) T.c_Search T.nf_Search_holders (L4 _ _ _ _ _ _ _ _) ?_
  have hs2 := hs2.put 0 rfl (o' := .ins T.C_Search dx (putF "holders" (.ref ap) (putF "place_costs" (.ref av) (putF "member_costs" (.ref au) (putF "many" (.int (n : Int)) (putF "weights" (.ref aw) []))))))
  have E2 := E2.put (a := x) (o := .ins T.C_Search dx (putF "holders" (.ref ap) (putF "place_costs" (.ref av) (putF "member_costs" (.ref au) (putF "many" (.int (n : Int)) (putF "weights" (.ref aw) [])))))) List.mem_cons_self
  revert hs2 E2
  generalize upd I2 x _ = J2
  intro hs2 E2
  wtm_at "rd"
  exact q ⟨x, dx, aw, au, av, ap, x, x, x⟩ _ rfl rfl hs2 E2 ⟨f_au, f_av, f_ap⟩
theorem ok_Search_slack (T : Txt K mg) : FnOk P w K mg base CX0 1 T.f_Search_slack T.d_Search_slack ["self", "member", "place"] (spSlack T.C_Search) := by
  refine T.F_Search_slack.ok sc_Search_slack (fun vs H Q E h => ?_) (fun cdv A outer s H vs Q E hr h => ?_)
  · obtain ⟨z, rows, n, w, p, u, v, L, B, us, i, j, rfl, _⟩ := h
    rfl
  obtain ⟨z, rows, n, w, p, u, v, L, B, us, i, j, rfl, h, i1, iN, j1, jN, n1, q⟩ := h
  refine ⟨_, (pss_cons (ps_set (i := 3) sc_Search_slack.nd rfl (by first | exact Or.inl rfl | exact Or.inr rfl) (pe_op op_sub pe_int (pe_ix (r := rIxL K) ix_list (pe_ix (r := rIxL K) ix_list (pe_fldK (K := K) (pv 0)) (pe_op op_sub (pv 1) pe_int) (fun _ _ => rfl)) (pe_op op_sub (pv 2) pe_int) (fun _ _ => rfl))))
      (pss_one (ps_ret (pe_op op_sub (pe_op op_sub (pv 3) (pe_ix (r := rIxL K) ix_list (pe_fldK (K := K) (pv 0)) (pv 1) (fun _ _ => rfl))) (pe_ix (r := rIxL K) ix_list (pe_fldK (K := K) (pv 0)) (pv 2) (fun _ _ => rfl)))))), ?_⟩
  try simp only [nox_K, cx_K]
  have hx := h.get 0 rfl
  have hw := h.get 1 rfl
  have hu := h.get 2 rfl
  have hv := h.get 3 rfl
  obtain ⟨r, hr, hrr⟩ := row_at h (i := i - 1) (by omega)
  wtm_at "rd"
  refine r_get hx T.c_Search T.nf_Search_weights (se_weights ..) ?_
  wtm_at "rd"
  refine r_ixL (SqL.of hw) (by rw [show (i : Int) - 1 = ((i - 1 : Nat) : Int) by omega]; exact hr) ?_
  wtm_at "rd"
  refine r_ixL (SqL.of hrr) (by rw [show (j : Int) - 1 = ((j - 1 : Nat) : Int) by omega]; exact at_lsF (by omega)) ?_
  wtm_at "rd"
  refine r_get hx T.c_Search T.nf_Search_member_costs (se_member_costs ..) ?_
  wtm_at "rd"
  refine r_ixL (SqL.of hu) (at_lsF (by omega)) ?_
  wtm_at "rd"
  refine r_get hx T.c_Search T.nf_Search_place_costs (se_place_costs ..) ?_
  wtm_at "rd"
  refine r_ixL (SqL.of hv) (at_lsF (by omega)) ?_
  wtm_at "rd"
  exact q
theorem ok_Search_shift (T : Txt K mg) : FnOk P w K mg base CX0 1 T.f_Search_shift T.d_Search_shift ["self", "used", "least", "delta"] (spShift T.C_Search) := by
  refine T.F_Search_shift.ok sc_Search_shift (fun vs H Q E h => ?_) (fun cdv A outer s H vs Q E hr h => ?_)
  · obtain ⟨z, rows, n, w, p, u, v, L, B, us, d, rfl, _⟩ := h
    rfl
  obtain ⟨z, rows, n, w, p, u, v, L, B, us, d, rfl, h, n1, hp, hL, q⟩ := h
  refine ⟨_, (pss_one (ps_for PassesOwn.never rfl (pi_range1 (by rfl) T.z_range (pa_cons (pe_op op_add (pe_fldK (K := K) (pv 0)) pe_int) pa_nil)) (pg_name (i := 4) sc_Search_shift.nd rfl (by first | exact Or.inl rfl | exact Or.inr rfl)) (pss_one (ps_if (pt_val (pe_ix (r := rIxL K) ix_list (pv 1) (pv 4) (fun _ _ => rfl))) (pss_cons (ps_augS (pe_fldK (K := K) (pv 0)) (pe_ix (r := rIxL K) ix_list (pe_fldK (K := K) (pv 0)) (pv 4) (fun _ _ => rfl)) get_list (pv 3) ip_add set_list)
      (pss_one (ps_augS (pe_fldK (K := K) (pv 0)) (pv 4) get_list (pv 3) ip_sub set_list))) (pss_one (ps_augS (pv 2) (pv 4) get_list (pv 3) ip_sub set_list)))))), ?_⟩
  try simp only [nox_K, cx_K]
  wtm_at "rd"
  refine r_for (r_rng1 ?_)
  wtm_at "rd"
  refine r_get (h.get 0 rfl) T.c_Search T.nf_Search_many (se_many ..) ?_
  wtm_at "rd"
  refine r_upto (by omega) (by omega) ?_
  refine for_range (fun k σ H' => ∃ (y4 : Option V), σ = [some (.ref z.x), some (.ref z.as), some (.ref z.al), some (.int d), y4] ∧ Hs (Fl T.C_Search z rows n p (shU us p d u k) (pV us d v k) (pL us d L k) B us) rows n w H' ∧ KeepX [z.au, z.av, z.al] H H') ⟨_, rfl, ?_, KeepX.refl⟩ ?_ ?_
  · exact h
  · rintro k σ H1 hk ⟨y4, rfl, h1, E1⟩
    have hk : k < n + 1 := by omega
    have hs := h1.get 7 rfl
    have hx := h1.get 0 rfl
    wtm_at "rd"
    refine r_ixL (SqL.of hs) (by rw [Int.zero_add]; exact at_lsF hk) ?_
    wtm_at "rd"
    refine r_iteb (fun e1 => ?_) (fun e1 => ?_)
    · have pk := hp k (by omega) e1
      wtm_at "rd"
      refine r_get hx T.c_Search T.nf_Search_member_costs (se_member_costs ..) ?_
      wtm_at "rd"
      refine r_get hx T.c_Search T.nf_Search_holders (se_holders ..) ?_
      wtm_at "rd"
      refine r_ixL (SqL.of (h1.get 4 rfl)) (by rw [Int.zero_add]; exact at_lsF hk) ?_
      wtm_at "rd"
      refine r_ixN (by omega) (SqL.of (h1.get 2 rfl)) (at_lsF (by omega)) ?_
      wtm_at "rd"
      refine r_setL (h1.get 2 rfl) (ixn_lsF (by omega)) ?_
      rw [set_intF]
      have h2 := h1.put 2 rfl (o' := .lst (intF (fset (shU us p d u k) (p k) (shU us p d u k (p k) + d)) (n + 1)))
      have E2 := E1.put (a := z.au) (o := .lst (intF (fset (shU us p d u k) (p k) (shU us p d u k (p k) + d)) (n + 1))) List.mem_cons_self
      revert h2 E2
      generalize upd H1 z.au _ = H2
      intro h2 E2
      have hx := h2.get 0 rfl
      wtm_at "rd"
      refine r_get hx T.c_Search T.nf_Search_place_costs (se_place_costs ..) ?_
      wtm_at "rd"
      refine r_ixN (by omega) (SqL.of (h2.get 3 rfl)) (by rw [Int.zero_add]; exact at_lsF hk) ?_
      wtm_at "rd"
      refine r_setL (h2.get 3 rfl) (by rw [Int.zero_add]; exact ixn_lsF hk) ?_
      rw [set_intF, pV_on e1]
      wtm_at "rd"
      refine ⟨_, rfl, ?_, E2.put (List.mem_cons_of_mem _ List.mem_cons_self)⟩
      have h3 := h2.put 3 rfl (o' := .lst (intF (pV us d v (k + 1)) (n + 1)))
      rw [pL_off e1] at h3
      unfold shU
      rw [if_pos e1]
      exact h3
    · obtain ⟨l, hl⟩ := hL k (by omega) e1
      wtm_at "rd"
      refine r_ixN (by omega) (SqL.of (h1.get 5 rfl)) (by rw [Int.zero_add]; exact at_lsF hk) ?_
      rw [pL_self, hl, show optV (some l) = V.int l from rfl]
      wtm_at "rd"
      refine r_setL (h1.get 5 rfl) (by rw [Int.zero_add]; exact ixn_lsF hk) ?_
      rw [set_optF, pL_on e1 hl]
      wtm_at "rd"
      refine ⟨_, rfl, ?_, E1.put (List.mem_cons_of_mem _ (List.mem_cons_of_mem _ List.mem_cons_self))⟩
      have h3 := h1.put 5 rfl (o' := .lst (optF (pL us d L (k + 1)) (n + 1)))
      rw [pV_off e1] at h3
      unfold shU
      rw [if_neg (by rw [e1]; exact Bool.false_ne_true)]
      exact h3
  · rintro σ H1 ⟨y4, rfl, h1, E1⟩
    have e : ((n : Int) + 1).toNat = n + 1 := by omega
    rw [e] at h1
    wtm_at "rd"
    refine q _ ?_ E1
    unfold Fl at h1 ⊢
    rw [intF_pV, optF_pL] at h1
    exact h1
end

open Hg
theorem mid_some {s : Nat → Int} {pl : Nat} {S : Sc} {j : Nat} : ∃ l, (scMid s pl S j).L j = some l := by
  unfold scMid
  cases hl : S.L j with
  | none => rw [if_pos (show better (s j) none = true from rfl)]; exact ⟨_, fset_same⟩
  | some l =>
    by_cases h : better (s j) (some l) = true
    · rw [if_pos h]; exact ⟨_, fset_same⟩
    · rw [if_neg h]; exact ⟨l, hl⟩
theorem mid_best {s : Nat → Int} {pl : Nat} {S : Sc} {j : Nat} : (scMid s pl S j).best = S.best := by
  unfold scMid
  split <;> rfl
theorem mid_at {s : Nat → Int} {pl : Nat} {S : Sc} {j b : Nat} (h : b ≠ j) : (scMid s pl S j).L b = S.L b := by
  unfold scMid
  split
  · exact fset_ne h
  · rfl
theorem scan_best {us : Nat → Bool} {s : Nat → Int} {pl : Nat} {L : Nat → Option Int} {B : Nat → Nat} {k : Nat} (h : (hScan us s pl L B k).best ≠ 0) : (hScan us s pl L B k).best ≤ k ∧ ∃ l, (hScan us s pl L B k).L (hScan us s pl L B k).best = some l := by
  have S := scan_ok us s pl L B k
  rcases S.best with ⟨a, _⟩ | ⟨b1, b2, b3, _⟩
  · exact absurd a h
  · obtain ⟨l, hl, _⟩ := S.in_ _ b1 b2 b3
    exact ⟨b2, l, hl⟩
theorem Hg.HIn.chain1 {n m : Nat} {c : Nat → Nat → Int} {p : Nat → Nat} {h : List Nat} {t : HSt} (I : HIn n m c p h t) (hne : h ≠ []) : HChain t.B (fun b a => sl c t.u t.v (p b) a = 0) (t.pl :: h) := by
  refine ⟨fun pl0 => ?_, I.chain⟩
  obtain ⟨l, y1, _, y3, y4, _⟩ := I.sm hne _ (Nat.pos_of_ne_zero pl0) (I.le _ List.mem_cons_self) (List.nodup_cons.mp I.nd).1
  rw [I.plz hne] at y1
  cases y1
  exact ⟨y3, y4.symm⟩
theorem Hg.HIn.mark0 {n m : Nat} {c : Nat → Nat → Int} {p : Nat → Nat} {h : List Nat} {t : HSt} (I : HIn n m c p h t) : hMark t 0 = true := by
  unfold hMark
  by_cases e : h = []
  · rw [I.first e, fset_same]
  · by_cases y : 0 = t.pl
    · rw [← y, fset_same]
    · rw [fset_ne y]; exact (I.us 0).mpr (I.zero e)
theorem KeepX.putN {ms : List Addr} {H H1 : Hp} {a : Addr} {o : HO} (h : KeepX ms H H1) (n : H a = none) : KeepX ms H (upd H1 a o) := fun b o' e m => (upd_ne (ne_of_none e n)).trans (h b o' e m)
theorem KeepX.then_ {ms ms' : List Addr} {H H1 H2 : Hp} (h : KeepX ms H H1) (g : KeepX ms' H1 H2) (c : ∀ a ∈ ms', a ∈ ms ∨ H a = none) : KeepX ms H H2 := fun b o e n => g b o (h b o e n) fun z => by
  rcases c b z with y | y
  · exact n y
  · rw [e] at y; cases y
def spAdd (C : Addr) : Sp := fun vs H Q _ => ∃ (z : Ad) (rows : List Addr) (n m : Nat) (w : Nat → Nat → Int) (s : Sol), vs = [.ref z.x, .int ((m + 1 : Nat) : Int)] ∧ Hs (Ow C z rows n s.u s.v s.p) rows n w H ∧ n ≤ 100 ∧ m < n ∧ HOut n m (cW w) s ∧
  ∀ H', Hs (Ow C z rows n (addM n (cW w) s (m + 1)).u (addM n (cW w) s (m + 1)).v (addM n (cW w) s (m + 1)).p) rows n w H' → KeepX [z.au, z.av, z.ap] H H' → Q .non H'
theorem Hs.pre {l l2 : List (Addr × HO)} {rows : List Addr} {n : Nat} {w : Nat → Nat → Int} {H : Hp} (h : Hs (l ++ l2) rows n w H) : Hs l rows n w H := by
  have nd := h.nd
  rw [List.map_append] at nd
  refine ⟨(List.nodup_append.mp nd).1, fun e he => h.at_ e (List.mem_append.mpr (.inl he)), h.len, fun i r hr => ⟨fun z => (h.row i r hr).1 ?_, (h.row i r hr).2⟩⟩
  rw [List.map_append]
  exact List.mem_append.mpr (.inl z)
section
variable {P : Program} {w : World} {K : PySem.W.Frag} {mg : Str → Option Value} {base : Heap}

theorem ok_Search_add_member (T : Txt K mg) : FnOk P w K mg base CX0 2 T.f_Search_add_member T.d_Search_add_member ["self", "member"] (spAdd T.C_Search) := by
  refine T.F_Search_add_member.ok sc_Search_add_member (fun vs H Q E h => ?_) (fun cdv A outer s H vs Q E hr h => ?_)
  · obtain ⟨z, rows, n, m, w, s0, rfl, _⟩ := h
    rfl
  obtain ⟨z, rows, n, m, w, s0, rfl, h, n1, mn, O, q⟩ := h
  refine ⟨_, (pss_cons (ps_asg (pv 1) (pg_sub (pe_fldK (K := K) (pv 0)) pe_int set_list))
      (pss_cons (ps_set (i := 2) sc_Search_add_member.nd rfl (by first | exact Or.inl rfl | exact Or.inr rfl) (pe_op op_rep (pe_lst (pa_cons pe_non pa_nil)) (pe_op op_add (pe_fldK (K := K) (pv 0)) pe_int)))
      (pss_cons (ps_set (i := 3) sc_Search_add_member.nd rfl (by first | exact Or.inl rfl | exact Or.inr rfl) (pe_op op_rep (pe_lst (pa_cons pe_int pa_nil)) (pe_op op_add (pe_fldK (K := K) (pv 0)) pe_int)))
      (pss_cons (ps_set (i := 4) sc_Search_add_member.nd rfl (by first | exact Or.inl rfl | exact Or.inr rfl) (pe_op op_rep (pe_lst (pa_cons pe_bl pa_nil)) (pe_op op_add (pe_fldK (K := K) (pv 0)) pe_int)))
      (pss_cons (ps_set (i := 5) sc_Search_add_member.nd rfl (by first | exact Or.inl rfl | exact Or.inr rfl) pe_int)
      (pss_cons (ps_while PassesOwn.never (pt_det (PW.pt (pw_or (pt_cmpR op_eq (pv 5) pe_int (nomark _)) (pw_or1 (pt_cmpR op_ne (pe_ix (r := rIxL K) ix_list (pe_fldK (K := K) (pv 0)) (pv 5) (fun _ _ => rfl)) pe_int (nomark _)))))) (pss_cons (ps_asg pe_bl (pg_sub (pv 4) (pv 5) set_list))
      (pss_cons (ps_set (i := 6) sc_Search_add_member.nd rfl (by first | exact Or.inl rfl | exact Or.inr rfl) pe_int)
      (pss_cons (ps_for PassesOwn.never rfl (pi_range2 (by rfl) T.z_range (pa_cons pe_int (pa_cons (pe_op op_add (pe_fldK (K := K) (pv 0)) pe_int) pa_nil))) (pg_name (i := 7) sc_Search_add_member.nd rfl (by first | exact Or.inl rfl | exact Or.inr rfl)) (pss_cons (ps_if (pt_val (pe_ix (r := rIxL K) ix_list (pv 4) (pv 7) (fun _ _ => rfl))) (pss_one ps_continue) pss_nil)
      (pss_cons (ps_set (i := 8) sc_Search_add_member.nd rfl (by first | exact Or.inl rfl | exact Or.inr rfl) (pe_meth (pv 0) T.c_Search T.mt_Search_slack (ok_Search_slack T) (hr.mono (by decide)) T.b_Search_slack .nil pass0 (pa_cons (pe_ix (r := rIxL K) ix_list (pe_fldK (K := K) (pv 0)) (pv 5) (fun _ _ => rfl)) (pa_cons (pv 7) pa_nil))))
      (C8.pss_cut (ps_if (pt_det (PW.pt (pw_or (pt_cmpR o_isN (pe_ix (r := rIxL K) ix_list (pv 2) (pv 7) (fun _ _ => rfl)) pe_non (nomark _)) (pw_or1 (pt_cmpR op_lt (pv 8) (pe_ix (r := rIxL K) ix_list (pv 2) (pv 7) (fun _ _ => rfl)) (nomark _)))))) (pss_cons (ps_asg (pv 8) (pg_sub (pv 2) (pv 7) set_list))
      (pss_one (ps_asg (pv 5) (pg_sub (pv 3) (pv 7) set_list)))) pss_nil)
      (pss_one (ps_if (pt_det (PW.pt (pw_or (pt_cmpR op_eq (pv 6) pe_int (nomark _)) (pw_or1 (pt_cmpR op_lt (pe_ix (r := rIxL K) ix_list (pv 2) (pv 7) (fun _ _ => rfl)) (pe_ix (r := rIxL K) ix_list (pv 2) (pv 6) (fun _ _ => rfl)) (nomark _)))))) (pss_one (ps_set (i := 6) sc_Search_add_member.nd rfl (by first | exact Or.inl rfl | exact Or.inr rfl) (pv 7))) pss_nil))))))
      (pss_cons (ps_expr (pe_meth (pv 0) T.c_Search T.mt_Search_shift (ok_Search_shift T) (hr.mono (by decide)) T.b_Search_shift .nil pass0 (pa_cons (pv 4) (pa_cons (pv 2) (pa_cons (pe_ix (r := rIxL K) ix_list (pv 2) (pv 6) (fun _ _ => rfl)) pa_nil)))))
      (pss_one (ps_set (i := 5) sc_Search_add_member.nd rfl (by first | exact Or.inl rfl | exact Or.inr rfl) (pv 6))))))))
      (pss_one (ps_while PassesOwn.never (pt_cmpR op_ne (pv 5) pe_int (nomark _)) (pss_cons (ps_asg (pe_ix (r := rIxL K) ix_list (pe_fldK (K := K) (pv 0)) (pe_ix (r := rIxL K) ix_list (pv 3) (pv 5) (fun _ _ => rfl)) (fun _ _ => rfl)) (pg_sub (pe_fldK (K := K) (pv 0)) (pv 5) set_list))
      (pss_one (ps_set (i := 5) sc_Search_add_member.nd rfl (by first | exact Or.inl rfl | exact Or.inr rfl) (pe_ix (r := rIxL K) ix_list (pv 3) (pv 5) (fun _ _ => rfl))))))))))))), ?_⟩
  try simp only [nox_K, cx_K]
  have P := start_pin O mn
  have I0 := start_in O
  have E0 : KeepX [z.au, z.av, z.ap] H H := KeepX.refl
  wtm_at "rd"
  refine r_get (h.get 0 rfl) T.c_Search T.nf_Search_holders (se_holders ..) ?_
  wtm_at "rd"
  refine r_setL (h.get 4 rfl) (ixn_lsF (k := 0) (by omega)) ?_
  rw [set_natF]
  have h1 := h.put 4 rfl (o' := .lst (natF (fset s0.p 0 (m + 1)) (n + 1)))
  have E1 := E0.put (a := z.ap) (o := .lst (natF (fset s0.p 0 (m + 1)) (n + 1))) (List.mem_cons_of_mem _ (List.mem_cons_of_mem _ List.mem_cons_self))
  revert h1 E1
  generalize upd H z.ap _ = H1
  intro h1 E1
  have free : ∀ {H' : Hp} {b : Addr}, KeepX [z.au, z.av, z.ap] H H' → (∃ o, H' z.au = some o) → (∃ o, H' z.av = some o) → (∃ o, H' z.ap = some o) → H' b = none → H b = none := fun {H' b} E ⟨_, ea⟩ ⟨_, eb⟩ ⟨_, ec⟩ nb => by
    cases e : H b with
    | none => rfl
    | some o' =>
      have y := E b o' e fun y => by
        simp only [List.mem_cons, List.mem_nil_iff, or_false] at y
        rcases y with rfl | rfl | rfl
        · rw [ea] at nb; cases nb
        · rw [eb] at nb; cases nb
        · rw [ec] at nb; cases nb
      rw [nb] at y
      cases y
  wtm_at "rd"
  refine r_new rfl fun c0 n_c0 => ?_
  generalize eq_c0 : upd _ c0 _ = G0
  have s_c0 : Same _ G0 := eq_c0 ▸ same_new n_c0
  have h_c0 : G0 c0 = some _ := eq_c0 ▸ upd_same
  clear eq_c0
  have h1 := h1.same s_c0
  have E1 := E1.trans (KeepX.of s_c0)
  wtm_at "rd"
  refine r_get (h1.get 0 rfl) T.c_Search T.nf_Search_many (se_many ..) ?_
  wtm_at "rd"
  rw [show ((n : Int) + 1) = ((n + 1 : Nat) : Int) by omega]
  refine r_rep h_c0 (by omega) fun al n_al => ?_
  have f_al : H al = none := free E1 ⟨_, h1.get 2 rfl⟩ ⟨_, h1.get 3 rfl⟩ ⟨_, h1.get 4 rfl⟩ n_al
  have h1 := h1.push (o := .lst (lsF (fun _ => .non) (n + 1))) n_al (same_new n_al) upd_same
  have E1 := E1.trans (KeepX.of (same_new (o := .lst (lsF (fun _ => .non) (n + 1))) n_al))
  revert h1 E1
  generalize upd G0 al _ = I_al
  intro h1 E1
  wtm_at "rd"
  refine r_new rfl fun c1 n_c1 => ?_
  generalize eq_c1 : upd _ c1 _ = G1
  have s_c1 : Same _ G1 := eq_c1 ▸ same_new n_c1
  have h_c1 : G1 c1 = some _ := eq_c1 ▸ upd_same
  clear eq_c1
  have h1 := h1.same s_c1
  have E1 := E1.trans (KeepX.of s_c1)
  wtm_at "rd"
  refine r_get (h1.get 0 rfl) T.c_Search T.nf_Search_many (se_many ..) ?_
  wtm_at "rd"
  rw [show ((n : Int) + 1) = ((n + 1 : Nat) : Int) by omega]
  refine r_rep h_c1 (by omega) fun ab n_ab => ?_
  have f_ab : H ab = none := free E1 ⟨_, h1.get 2 rfl⟩ ⟨_, h1.get 3 rfl⟩ ⟨_, h1.get 4 rfl⟩ n_ab
  have h1 := h1.push (o := .lst (lsF (fun _ => (.int 0)) (n + 1))) n_ab (same_new n_ab) upd_same
  have E1 := E1.trans (KeepX.of (same_new (o := .lst (lsF (fun _ => (.int 0)) (n + 1))) n_ab))
  revert h1 E1
  generalize upd G1 ab _ = I_ab
  intro h1 E1
  wtm_at "rd"
  refine r_new rfl fun c2 n_c2 => ?_
  generalize eq_c2 : upd _ c2 _ = G2
  have s_c2 : Same _ G2 := eq_c2 ▸ same_new n_c2
  have h_c2 : G2 c2 = some _ := eq_c2 ▸ upd_same
  clear eq_c2
  have h1 := h1.same s_c2
  have E1 := E1.trans (KeepX.of s_c2)
  wtm_at "rd"
  refine r_get (h1.get 0 rfl) T.c_Search T.nf_Search_many (se_many ..) ?_
  wtm_at "rd"
  rw [show ((n : Int) + 1) = ((n + 1 : Nat) : Int) by omega]
  refine r_rep h_c2 (by omega) fun as n_as => ?_
  have f_as : H as = none := free E1 ⟨_, h1.get 2 rfl⟩ ⟨_, h1.get 3 rfl⟩ ⟨_, h1.get 4 rfl⟩ n_as
  have h1 := h1.push (o := .lst (lsF (fun _ => (.bl false)) (n + 1))) n_as (same_new n_as) upd_same
  have E1 := E1.trans (KeepX.of (same_new (o := .lst (lsF (fun _ => (.bl false)) (n + 1))) n_as))
  revert h1 E1
  generalize upd G2 as _ = I_as
  intro h1 E1
  obtain ⟨y, ey⟩ : ∃ y : Ad, y = ⟨z.x, z.dx, z.aw, z.au, z.av, z.ap, al, ab, as⟩ := ⟨_, rfl⟩
  have h1 : Hs (Fl T.C_Search y rows n (fset s0.p 0 (m + 1)) s0.u s0.v (fun _ => none) (fun _ => 0) (fun _ => false)) rows n w I_as := by rw [ey]; exact h1
  have eF : hLoop n (cW w) (fset s0.p 0 (m + 1)) (n + 1) (hStart s0) = hFound n (cW w) s0 (m + 1) := rfl
  have e1 : z.x = y.x := by rw [ey]
  have e2 : al = y.al := by rw [ey]
  have e3 : ab = y.ab := by rw [ey]
  have e4 : as = y.as := by rw [ey]
  have e5 : z.au = y.au := by rw [ey]
  have e6 : z.av = y.av := by rw [ey]
  have e7 : z.ap = y.ap := by rw [ey]
  rw [e2] at f_al
  rw [e3] at f_ab
  rw [e4] at f_as
  rw [e5, e6, e7] at E1
  wtm_at "rd"
  rw [e1, e2, e3, e4]
  refine r_while (fun f σ H' => ∃ (hh : List Nat) (t : HSt) (y6 y7 y8 : Option V), σ = [some (.ref y.x), some (.int ((m + 1 : Nat) : Int)), some (.ref y.al), some (.ref y.ab), some (.ref y.as), some (.int (t.pl : Int)), y6, y7, y8] ∧ Hs (Fl T.C_Search y rows n (fset s0.p 0 (m + 1)) t.u t.v t.L t.B t.us) rows n w H' ∧ KeepX [y.au, y.av, y.ap] H H' ∧ HIn n (m + 1) (cW w) (fset s0.p 0 (m + 1)) hh t ∧ n + 1 ≤ hh.length + f ∧ hLoop n (cW w) (fset s0.p 0 (m + 1)) f t = hFound n (cW w) s0 (m + 1)) ⟨n + 1, [], hStart s0, _, _, _, rfl, h1, E1, I0, by simp, eF⟩ ?_
  rintro f σ H2 ⟨hh, t, y6, y7, y8, rfl, h2, E2, I2, hf, hl⟩
  have pln : t.pl ≤ n := I2.le _ List.mem_cons_self
  have hx := h2.get 0 rfl
  refine r_det (decide (t.pl = 0 ∨ fset s0.p 0 (m + 1) t.pl ≠ 0)) (fun QB hq => ?_) ?_
  · wtm_at "rd"
    refine r_ite (fun e => ?_) (fun e => ?_)
    · rw [decide_eq_true (.inl (by omega))] at hq
      exact hq
    · wtm_at "rd"
      refine r_get hx T.c_Search T.nf_Search_holders (se_holders ..) ?_
      wtm_at "rd"
      refine r_ixL (SqL.of (h2.get 4 rfl)) (at_lsF (by omega)) ?_
      wtm_at "rd"
      refine Eq.mp (congrArg (fun b => QB b _) ?_) hq
      have q0 : t.pl ≠ 0 := by omega
      by_cases e2 : fset s0.p 0 (m + 1) t.pl = 0
      · simp [e2, q0]
      · simp [e2, q0]
  by_cases hc : t.pl = 0 ∨ fset s0.p 0 (m + 1) t.pl ≠ 0
  · rw [decide_eq_true hc, if_pos rfl]
    have hp : fset s0.p 0 (m + 1) t.pl ≠ 0 := by
      rcases hc with e | e
      · rw [e, P.p0]; omega
      · exact e
    have hpn : fset s0.p 0 (m + 1) t.pl ≤ n := by
      by_cases e : t.pl = 0
      · rw [e, P.p0]; omega
      · have := P.lt t.pl (by omega) pln
        omega
    obtain ⟨f, rfl⟩ : ∃ f', f = f' + 1 := ⟨f - 1, by have := I2.len; omega⟩
    have hl : hLoop n (cW w) (fset s0.p 0 (m + 1)) f (hStep n (cW w) (fset s0.p 0 (m + 1)) t) = hFound n (cW w) s0 (m + 1) := by rw [← hl]; exact (if_pos hc).symm
    obtain ⟨I3, b0⟩ := step_in P I2 hp
    refine ⟨fun σ H' => ∃ (hh : List Nat) (t : HSt) (y6 y7 y8 : Option V), σ = [some (.ref y.x), some (.int ((m + 1 : Nat) : Int)), some (.ref y.al), some (.ref y.ab), some (.ref y.as), some (.int (t.pl : Int)), y6, y7, y8] ∧ Hs (Fl T.C_Search y rows n (fset s0.p 0 (m + 1)) t.u t.v t.L t.B t.us) rows n w H' ∧ KeepX [y.au, y.av, y.ap] H H' ∧ HIn n (m + 1) (cW w) (fset s0.p 0 (m + 1)) hh t ∧ n + 1 ≤ hh.length + f ∧ hLoop n (cW w) (fset s0.p 0 (m + 1)) f t = hFound n (cW w) s0 (m + 1), fun σ' H' z => ⟨f, by omega, z⟩, ?_⟩
    wtm_at "rd"
    refine r_setL (h2.get 7 rfl) (ixn_lsF (by omega)) ?_
    rw [set_boolF]
    have h3 := h2.put 7 rfl (o' := .lst (boolF (hMark t) (n + 1)))
    have E3 := E2.putN (o := .lst (boolF (hMark t) (n + 1))) f_as
    show tSeq _ _ _ _ (upd H2 y.as (.lst (boolF (hMark t) (n + 1))))
    revert h3 E3
    generalize upd H2 y.as _ = H3
    intro h3 E3
    wtm_at "rd"
    refine r_for (r_rng2 ?_)
    wtm_at "rd"
    refine r_get (h3.get 0 rfl) T.c_Search T.nf_Search_many (se_many ..) ?_
    wtm_at "rd"
    refine r_from (by omega) (by omega) ?_
    refine for_range (fun k σ H' => ∃ (y7 y8 : Option V), σ = [some (.ref y.x), some (.int ((m + 1 : Nat) : Int)), some (.ref y.al), some (.ref y.ab), some (.ref y.as), some (.int (t.pl : Int)), some (.int ((hScan (hMark t) (sl (cW w) t.u t.v (fset s0.p 0 (m + 1) t.pl)) t.pl t.L t.B k).best : Int)), y7, y8] ∧ Hs (Fl T.C_Search y rows n (fset s0.p 0 (m + 1)) t.u t.v (hScan (hMark t) (sl (cW w) t.u t.v (fset s0.p 0 (m + 1) t.pl)) t.pl t.L t.B k).L (hScan (hMark t) (sl (cW w) t.u t.v (fset s0.p 0 (m + 1) t.pl)) t.pl t.L t.B k).B (hMark t)) rows n w H' ∧ KeepX [y.au, y.av, y.ap] H H') ⟨_, _, rfl, h3, E3⟩ ?_ ?_
    · rintro k σ H4 hk ⟨y7, y8, rfl, h4, E4⟩
      have hk : k < n := by omega
      have SB := scan_best (us := hMark t) (s := sl (cW w) t.u t.v (fset s0.p 0 (m + 1) t.pl)) (pl := t.pl) (L := t.L) (B := t.B) (k := k)
      have eN : hScan (hMark t) (sl (cW w) t.u t.v (fset s0.p 0 (m + 1) t.pl)) t.pl t.L t.B (k + 1) = scStep (hMark t) (sl (cW w) t.u t.v (fset s0.p 0 (m + 1) t.pl)) t.pl (hScan (hMark t) (sl (cW w) t.u t.v (fset s0.p 0 (m + 1) t.pl)) t.pl t.L t.B k) (k + 1) := rfl
      rw [eN]
      revert h4 SB
      generalize hScan (hMark t) (sl (cW w) t.u t.v (fset s0.p 0 (m + 1) t.pl)) t.pl t.L t.B k = S
      intro h4 SB
      rw [show (1 + (k : Int)) = ((k + 1 : Nat) : Int) by omega]
      wtm_at "rd"
      refine r_ixL (SqL.of (h4.get 7 rfl)) (at_lsF (by omega)) ?_
      wtm_at "rd"
      refine r_iteb (fun e1 => ?_) (fun e1 => ?_)
      · wtm_at "rd"
        rw [show scStep (hMark t) (sl (cW w) t.u t.v (fset s0.p 0 (m + 1) t.pl)) t.pl S (k + 1) = S from if_pos e1]
        exact ⟨_, _, rfl, h4, E4⟩
      rw [show scStep (hMark t) (sl (cW w) t.u t.v (fset s0.p 0 (m + 1) t.pl)) t.pl S (k + 1) = scEnd (scMid (sl (cW w) t.u t.v (fset s0.p 0 (m + 1) t.pl)) t.pl S (k + 1)) (k + 1) from if_neg (by rw [e1]; exact Bool.false_ne_true)]
      wtm_at "rd"
      refine r_who (h4.get 0 rfl) (se_no _ _ _ _ _ (by decide +kernel) (by decide +kernel) (by decide +kernel) (by decide +kernel) (by decide +kernel)) ?_
      wtm_at "rd"
      refine r_get (h4.get 0 rfl) T.c_Search T.nf_Search_holders (se_holders ..) ?_
      wtm_at "rd"
      refine r_ixL (SqL.of (h4.get 4 rfl)) (at_lsF (by omega)) ?_
      wtm_at "rd"
      refine ⟨y, rows, n, w, _, _, _, _, _, _, fset s0.p 0 (m + 1) t.pl, k + 1, rfl, h4, by omega, hpn, by omega, by omega, n1, ?_⟩
      wtm_at "rd"
      refine ⟨fun σ H' => σ = [some (.ref y.x), some (.int ((m + 1 : Nat) : Int)), some (.ref y.al), some (.ref y.ab), some (.ref y.as), some (.int (t.pl : Int)), some (.int (S.best : Int)), some (.int ((k + 1 : Nat) : Int)), some (.int (sl (cW w) t.u t.v (fset s0.p 0 (m + 1) t.pl) (k + 1)))] ∧ Hs (Fl T.C_Search y rows n (fset s0.p 0 (m + 1)) t.u t.v (scMid (sl (cW w) t.u t.v (fset s0.p 0 (m + 1) t.pl)) t.pl S (k + 1)).L (scMid (sl (cW w) t.u t.v (fset s0.p 0 (m + 1) t.pl)) t.pl S (k + 1)).B (hMark t)) rows n w H' ∧ KeepX [y.au, y.av, y.ap] H H', ?_, ?_⟩
      · refine r_det (better (sl (cW w) t.u t.v (fset s0.p 0 (m + 1) t.pl) (k + 1)) (S.L (k + 1))) (fun QB hq => ?_) ?_
        · cases hl : S.L (k + 1) with
          | none =>
            rw [hl] at hq
            wtm_at "rd"
            refine r_ixL (SqL.of (h4.get 5 rfl)) (at_lsF (by omega)) ?_
            rw [hl, show optV none = V.non from rfl]
            wtm_at "rdi"
            exact hq
          | some l =>
            rw [hl] at hq
            wtm_at "rd"
            refine r_ixL (SqL.of (h4.get 5 rfl)) (at_lsF (by omega)) ?_
            rw [hl, show optV (some l) = V.int l from rfl]
            wtm_at "rdi"
            refine r_ixL (SqL.of (h4.get 5 rfl)) (at_lsF (by omega)) ?_
            rw [hl, show optV (some l) = V.int l from rfl]
            wtm_at "rd"
            exact hq
        · refine r_iteb (fun e2 => ?_) (fun e2 => ?_)
          · wtm_at "rd"
            refine r_setL (h4.get 5 rfl) (ixn_lsF (by omega)) ?_
            rw [set_optF]
            have h5 := h4.put 5 rfl (o' := .lst (optF (fset S.L (k + 1) (some (sl (cW w) t.u t.v (fset s0.p 0 (m + 1) t.pl) (k + 1)))) (n + 1)))
            have E5 := E4.putN (o := .lst (optF (fset S.L (k + 1) (some (sl (cW w) t.u t.v (fset s0.p 0 (m + 1) t.pl) (k + 1)))) (n + 1))) f_al
            revert h5 E5
            generalize upd H4 y.al _ = H5
            intro h5 E5
            wtm_at "rd"
            refine r_setL (h5.get 6 rfl) (ixn_lsF (by omega)) ?_
            rw [set_natF]
            have h6 := h5.put 6 rfl (o' := .lst (natF (fset S.B (k + 1) t.pl) (n + 1)))
            wtm_at "rd"
            refine ⟨rfl, ?_, E5.putN f_ab⟩
            rw [show scMid (sl (cW w) t.u t.v (fset s0.p 0 (m + 1) t.pl)) t.pl S (k + 1) = ⟨fset S.L (k + 1) (some (sl (cW w) t.u t.v (fset s0.p 0 (m + 1) t.pl) (k + 1))), fset S.B (k + 1) t.pl, S.best⟩ from if_pos e2]
            exact h6
          · wtm_at "rd"
            refine ⟨rfl, ?_, E4⟩
            rw [show scMid (sl (cW w) t.u t.v (fset s0.p 0 (m + 1) t.pl)) t.pl S (k + 1) = S from if_neg (by rw [e2]; exact Bool.false_ne_true)]
            exact h4
      · rintro σ H5 ⟨rfl, h5, E5⟩
        obtain ⟨l, hl⟩ := mid_some (s := sl (cW w) t.u t.v (fset s0.p 0 (m + 1) t.pl)) (pl := t.pl) (S := S) (j := k + 1)
        have mb := mid_best (s := sl (cW w) t.u t.v (fset s0.p 0 (m + 1) t.pl)) (pl := t.pl) (S := S) (j := k + 1)
        have ma : S.best ≠ 0 → ∃ lb, S.best ≤ k ∧ (scMid (sl (cW w) t.u t.v (fset s0.p 0 (m + 1) t.pl)) t.pl S (k + 1)).L S.best = some lb := fun hb => by
          obtain ⟨bk, lb, hlb⟩ := SB hb
          exact ⟨lb, bk, by rw [mid_at (by omega)]; exact hlb⟩
        rw [← mb] at ma ⊢
        revert h5 hl ma
        generalize scMid (sl (cW w) t.u t.v (fset s0.p 0 (m + 1) t.pl)) t.pl S (k + 1) = M
        intro h5 hl ma
        refine r_det (decide (M.best = 0 ∨ ltO (M.L (k + 1)) (M.L M.best) = true)) (fun QB hq => ?_) ?_
        · wtm_at "rd"
          refine r_ite (fun e => ?_) (fun e => ?_)
          · rw [decide_eq_true (.inl (by omega))] at hq
            exact hq
          · have mb0 : M.best ≠ 0 := by omega
            obtain ⟨lb, bk, hlb⟩ := ma mb0
            wtm_at "rd"
            refine r_ixL (SqL.of (h5.get 5 rfl)) (at_lsF (by omega)) ?_
            rw [hl, show optV (some l) = V.int l from rfl]
            wtm_at "rd"
            refine r_ixL (SqL.of (h5.get 5 rfl)) (at_lsF (by omega)) ?_
            rw [hlb, show optV (some lb) = V.int lb from rfl]
            wtm_at "rd"
            refine Eq.mp (congrArg (fun b => QB b _) ?_) hq
            rw [hl, hlb]
            simp [ltO, mb0]
        · refine r_ite (fun e2 => ?_) (fun e2 => ?_)
          · wtm_at "rd"
            rw [show scEnd M (k + 1) = ⟨M.L, M.B, k + 1⟩ from if_pos e2]
            exact ⟨_, _, rfl, h5, E5⟩
          · wtm_at "rd"
            rw [show scEnd M (k + 1) = M from if_neg e2]
            exact ⟨_, _, rfl, h5, E5⟩
    · rintro σ H4 ⟨y7, y8, rfl, h4, E4⟩
      have e0 : ((n : Int) + 1 - 1).toNat = n := by omega
      rw [e0] at h4
      have eS : hScan (hMark t) (sl (cW w) t.u t.v (fset s0.p 0 (m + 1) t.pl)) t.pl t.L t.B n = stScan n (cW w) (fset s0.p 0 (m + 1)) t := rfl
      rw [eS] at h4
      rw [e0, eS]
      have b0 : (stScan n (cW w) (fset s0.p 0 (m + 1)) t).best ≠ 0 := b0
      obtain ⟨bn, l, bl⟩ := scan_best (us := hMark t) (s := sl (cW w) t.u t.v (fset s0.p 0 (m + 1) t.pl)) (pl := t.pl) (L := t.L) (B := t.B) (k := n) b0
      rw [eS] at bn bl
      have eD : stD (stScan n (cW w) (fset s0.p 0 (m + 1)) t) = l := by unfold stD; rw [bl]; rfl
      wtm_at "rd"
      refine r_who (h4.get 0 rfl) (se_no _ _ _ _ _ (by decide +kernel) (by decide +kernel) (by decide +kernel) (by decide +kernel) (by decide +kernel)) ?_
      wtm_at "rd"
      refine r_ixL (SqL.of (h4.get 5 rfl)) (at_lsF (by omega)) ?_
      rw [bl, show optV (some l) = V.int l from rfl]
      wtm_at "rd"
      have SO := scan_ok (hMark t) (sl (cW w) t.u t.v (fset s0.p 0 (m + 1) t.pl)) t.pl t.L t.B n
      rw [eS] at SO
      refine ⟨y, rows, n, w, _, _, _, _, _, _, l, rfl, h4, n1, fun q0 qn _ => ?_, fun q0 qn hq => ?_, fun H5 h5 E5 => ?_⟩
      · by_cases e : q0 = 0
        · rw [e, P.p0]; omega
        · have := P.lt q0 (by omega) qn
          omega
      · have q1 : q0 ≠ 0 := fun e => by rw [e, I2.mark0] at hq; cases hq
        obtain ⟨l', hl', _⟩ := SO.in_ q0 (by omega) qn hq
        exact ⟨l', hl'⟩
      · have E5 := E4.then_ E5 fun a ha => by
          simp only [List.mem_cons, List.mem_nil_iff, or_false] at ha ⊢
          rcases ha with e | e | e
          · exact .inl (.inl e)
          · exact .inl (.inr (.inl e))
          · exact .inr (by rw [e]; exact f_al)
        wtm_at "rd"
        refine ⟨_, hStep n (cW w) (fset s0.p 0 (m + 1)) t, _, _, _, rfl, ?_, E5, I3, by rw [List.length_cons]; omega, hl⟩
        rw [← eD] at h5
        exact h5
  · rw [decide_eq_false hc, if_neg Bool.false_ne_true]
    have pl0 : t.pl ≠ 0 := fun z => hc (.inl z)
    have hne : hh ≠ [] := fun z => pl0 (I2.first z)
    have et : t = hFound n (cW w) s0 (m + 1) := by
      rw [← hl]
      cases f with
      | zero => rfl
      | succ f => exact (if_neg hc).symm
    have ch := I2.chain1 hne
    dsimp only
    refine r_while (fun g σ H' => ∃ (p' : Nat → Nat) (qq : Nat) (tl : List Nat) (y6 y7 y8 : Option V), σ = [some (.ref y.x), some (.int ((m + 1 : Nat) : Int)), some (.ref y.al), some (.ref y.ab), some (.ref y.as), some (.int (qq : Int)), y6, y7, y8] ∧ Hs (Fl T.C_Search y rows n p' t.u t.v t.L t.B t.us) rows n w H' ∧ KeepX [y.au, y.av, y.ap] H H' ∧ HChain t.B (fun b a => sl (cW w) t.u t.v (fset s0.p 0 (m + 1) b) a = 0) (qq :: tl) ∧ (∀ a ∈ qq :: tl, a ≤ n) ∧ tl.length < g ∧ hBack t.B g p' qq = hBack t.B (n + 1) (fset s0.p 0 (m + 1)) t.pl) ⟨n + 1, _, t.pl, hh, _, _, _, rfl, h2, E2, ch, I2.le, by have := I2.len; omega, rfl⟩ ?_
    rintro g σ H3 ⟨p', qq, tl, y6, y7, y8, rfl, h3, E3, ch3, le3, lg, hb⟩
    have qn := le3 qq List.mem_cons_self
    obtain ⟨g, rfl⟩ : ∃ g', g = g' + 1 := ⟨g - 1, by omega⟩
    wtm_at "rd"
    refine r_iten (fun e1 => ?_) (fun e1 => ?_)
    · have q0 : qq ≠ 0 := by omega
      obtain ⟨c1, c2⟩ := ch3
      obtain ⟨bm, _⟩ := c1 q0
      have bn := le3 _ (List.mem_cons_of_mem _ bm)
      obtain ⟨s, tl2, rfl⟩ := List.append_of_mem bm
      refine ⟨fun σ H' => ∃ (p' : Nat → Nat) (qq : Nat) (tl : List Nat) (y6 y7 y8 : Option V), σ = [some (.ref y.x), some (.int ((m + 1 : Nat) : Int)), some (.ref y.al), some (.ref y.ab), some (.ref y.as), some (.int (qq : Int)), y6, y7, y8] ∧ Hs (Fl T.C_Search y rows n p' t.u t.v t.L t.B t.us) rows n w H' ∧ KeepX [y.au, y.av, y.ap] H H' ∧ HChain t.B (fun b a => sl (cW w) t.u t.v (fset s0.p 0 (m + 1) b) a = 0) (qq :: tl) ∧ (∀ a ∈ qq :: tl, a ≤ n) ∧ tl.length < g ∧ hBack t.B g p' qq = hBack t.B (n + 1) (fset s0.p 0 (m + 1)) t.pl, fun σ' H' z => ⟨g, by omega, z⟩, ?_⟩
      wtm_at "rd"
      refine r_get (h3.get 0 rfl) T.c_Search T.nf_Search_holders (se_holders ..) ?_
      wtm_at "rd"
      refine r_ixL (SqL.of (h3.get 6 rfl)) (at_lsF (by omega)) ?_
      wtm_at "rd"
      refine r_ixL (SqL.of (h3.get 4 rfl)) (at_lsF (by omega)) ?_
      wtm_at "rd"
      refine r_get (h3.get 0 rfl) T.c_Search T.nf_Search_holders (se_holders ..) ?_
      wtm_at "rd"
      refine r_setL (h3.get 4 rfl) (ixn_lsF (by omega)) ?_
      rw [set_natF]
      have h4 := h3.put 4 rfl (o' := .lst (natF (fset p' qq (p' (t.B qq))) (n + 1)))
      have E4 := E3.put (a := y.ap) (o := .lst (natF (fset p' qq (p' (t.B qq))) (n + 1))) (List.mem_cons_of_mem _ (List.mem_cons_of_mem _ List.mem_cons_self))
      revert h4 E4
      generalize upd H3 y.ap _ = H4
      intro h4 E4
      wtm_at "rd"
      refine r_ixL (SqL.of (h4.get 6 rfl)) (at_lsF (by omega)) ?_
      wtm_at "rd"
      refine ⟨_, t.B qq, tl2, _, _, _, rfl, h4, E4, c2.suf, fun a ha => le3 a (List.mem_cons_of_mem _ (List.mem_append.mpr (.inr ha))), by rw [List.length_append, List.length_cons] at lg; omega, ?_⟩
      rw [← hb]
      exact (if_neg q0).symm
    · have q0 : qq = 0 := by omega
      have ep : p' = (addM n (cW w) s0 (m + 1)).p := by
        have e : hBack t.B (g + 1) p' qq = p' := if_pos q0
        rw [← e, hb, et]
        rfl
      have h3 : Hs (Ow T.C_Search z rows n t.u t.v p') rows n w H3 := by
        rw [ey] at h3
        exact Hs.pre (l2 := [_, _, _]) h3
      rw [ep, et] at h3
      rw [← e5, ← e6, ← e7] at E3
      exact q _ h3 E3
end

open Hg
structure MaAt (C : Addr) (H : Hp) (x : Addr) (n : Nat) (w : Nat → Nat → Int) (pl mp pp : Addr) : Prop where
  ex : ∃ dx, H x = some (.ins C dx (maF pl ((List.range n).map fun i => w i (hPl n w i)).sum mp pp))
  pl : H pl = some (.lst (natF (hPl n w) n))
  mp : H mp = some (.lst (intF (hMp n w) n))
  pp : H pp = some (.lst (intF (hPp n w) n))
theorem MaAt.same {C : Addr} {H H' : Hp} {x : Addr} {n : Nat} {w : Nat → Nat → Int} {pl mp pp : Addr} (h : MaAt C H x n w pl mp pp) (s : Same H H') : MaAt C H' x n w pl mp pp := by
  obtain ⟨⟨dx, e⟩, h1, h2, h3⟩ := h
  exact ⟨⟨dx, s _ _ e⟩, s _ _ h1, s _ _ h2, s _ _ h3⟩
/-- weights stand at a -/
structure WAt (H : Hp) (a : Addr) (n : Nat) (w : Nat → Nat → Int) (rows : List Addr) : Prop where
  ls : H a = some (.lst (rows.map V.ref))
  len : rows.length = n
  row : ∀ (i : Nat) (r : Addr), rows[i]? = some r → H r = some (.lst (intF (w i) n))
theorem WAt.same {H H' : Hp} {a : Addr} {n : Nat} {w : Nat → Nat → Int} {rows : List Addr} (h : WAt H a n w rows) (s : Same H H') : WAt H' a n w rows := ⟨s _ _ h.ls, h.len, fun i r hr => s _ _ (h.row i r hr)⟩
def spBest (C : Addr) : Sp := fun vs H Q _ => ∃ (a : Addr) (n : Nat) (w : Nat → Nat → Int) (rows : List Addr), vs = [.ref a] ∧ WAt H a n w rows ∧ n ≤ 20 ∧ ∀ (x pl mp pp : Addr) (H' : Hp), Same H H' → MaAt C H' x n w pl mp pp → (H x = none ∧ H pl = none ∧ H mp = none ∧ H pp = none) → (pl ≠ mp ∧ pl ≠ pp ∧ mp ≠ pp) → Q (.ref x) H'
theorem r_enum {K : PySem.W.Frag} {ta : TA} {σ : L2.St} {H : Hp} {R : It → Hp → Prop} (h : ta σ H fun vs H1 => ∃ a xs, vs = [.ref a] ∧ SqL K H1 a xs ∧ R (Ite K a) H1) : iEnum K ta σ H R := h
theorem same_two {H : Hp} {x dx C : Addr} (nx : H x = none) (nd : H dx = none) : Same H (upd (upd H dx (.own x)) x (.ins C dx [])) := fun b o e => (upd_ne (ne_of_none e nx)).trans ((upd_ne (ne_of_none e nd)).trans e)
theorem intF_tail {f : Nat → Int} {n : Nat} : cutV (intF f (n + 1)) (some 1) none = intF (fun i => f (i + 1)) n := by
  have e : intF f (n + 1) = .int (f 0) :: intF (fun i => f (i + 1)) n := by
    unfold intF lsF
    rw [List.range_succ_eq_map, List.map_cons, List.map_map]
    rfl
  have l : (intF (fun i => f (i + 1)) n).length = n := lsF_len
  rw [e]
  unfold cutV
  rw [show HT.sIx (V.int (f 0) :: intF (fun i => f (i + 1)) n).length 0 (some 1) = min 1 (V.int (f 0) :: intF (fun i => f (i + 1)) n).length from HT.sIx_nat _ _ 1, HT.sIx_none, List.length_cons, l, Nat.min_eq_left (by omega), List.drop_one, List.tail_cons, Nat.add_sub_cancel]
  exact List.take_of_length_le (by rw [l]; exact Nat.le_refl _)
theorem intF_ints {f : Nat → Int} {n : Nat} : lsF (fun i => V.int (f i)) n = ((List.range n).map f).map V.int := by
  unfold lsF
  rw [List.map_map]
  rfl
def negV : V → V
  | .int c => .int (0 - c)
  | v => v
theorem neg_intF {f : Nat → Int} {n : Nat} : (intF f n).map negV = intF (fun i => 0 - f i) n := by
  unfold intF lsF
  rw [List.map_map]
  rfl
section
variable {P : Program} {w : World} {K : PySem.W.Frag} {mg : Str → Option Value} {base : Heap}

theorem ok_best_matching (T : Txt K mg) : FnOk P w K mg base CX0 4 T.f_best_matching T.d_best_matching ["weights"] (spBest T.C_Matching) := by
  refine T.F_best_matching.ok sc_best_matching (fun vs H Q E h => ?_) (fun cdv A outer s H vs Q E hr h => ?_)
  · obtain ⟨a, n, w, rows, rfl, _⟩ := h
    rfl
  obtain ⟨a, n, w, rows, rfl, W, n1, q⟩ := h
  refine ⟨_, (pss_cons (ps_set (i := 1) sc_best_matching.nd rfl (by first | exact Or.inl rfl | exact Or.inr rfl) (pe_make T.m_Search (ok_Search___init__ T) (hr.mono (by decide)) (by rfl) T.g_Search T.b_Search___init__ .nil pass0 (pa_cons (pe_lc (own := [("row", 8)]) (g := gName 8) (tt := tYes) rfl sc_best_matching.nd (pi_list (pv 0)) (blkOk_by (N := ["weights", "search", "member", "places", "place", "total", "member_prices", "place_prices", "row", "cost"]) (sc := defScope s_best_matching) (by decide +kernel)) (fun _ _ _ _ _ => pg_name (i := 8) sc_best_matching.nd rfl (by first | exact Or.inl rfl | exact Or.inr rfl)) (fun _ _ _ _ _ => pts_nil) (fun _ _ _ _ _ => (pe_callTy (r := rListA K) (T := "list") c_listA (by rfl) T.z_list (by decide +kernel) (pa_cons (pv 8) pa_nil)))) pa_nil)))
      (pss_cons (ps_for PassesOwn.never rfl (pi_range2 (by rfl) T.z_range (pa_cons pe_int (pa_cons (pe_op op_add (pe_fldK (K := K) (pv 1)) pe_int) pa_nil))) (pg_name (i := 2) sc_best_matching.nd rfl (by first | exact Or.inl rfl | exact Or.inr rfl)) (pss_one (ps_expr (pe_meth (pv 1) T.c_Search T.mt_Search_add_member (ok_Search_add_member T) (hr.mono (by decide)) T.b_Search_add_member .nil pass0 (pa_cons (pv 2) pa_nil)))))
      (pss_cons (ps_set (i := 3) sc_best_matching.nd rfl (by first | exact Or.inl rfl | exact Or.inr rfl) (pe_op op_rep (pe_lst (pa_cons pe_int pa_nil)) (pe_fldK (K := K) (pv 1))))
      (pss_cons (ps_for PassesOwn.never rfl (pi_range2 (by rfl) T.z_range (pa_cons pe_int (pa_cons (pe_op op_add (pe_fldK (K := K) (pv 1)) pe_int) pa_nil))) (pg_name (i := 4) sc_best_matching.nd rfl (by first | exact Or.inl rfl | exact Or.inr rfl)) (pss_one (ps_asg (pe_op op_sub (pv 4) pe_int) (pg_sub (pv 3) (pe_op op_sub (pe_ix (r := rIxL K) ix_list (pe_fldK (K := K) (pv 1)) (pv 4) (fun _ _ => rfl)) pe_int) set_list))))
      (pss_cons (ps_set (i := 5) sc_best_matching.nd rfl (by first | exact Or.inl rfl | exact Or.inr rfl) (pe_callB (cr_sum rfl) (by rfl) T.z_sum (by decide +kernel) (pa_cons (pe_lc (own := [("member", 2), ("place", 4)]) (g := gTup K 2 (gCons (gName 2) (gCons (gName 4) gNil))) (tt := tYes) rfl sc_best_matching.nd (pi_enum (by rfl) T.z_enumerate (pa_cons (pv 3) pa_nil)) (blkOk_by (N := ["weights", "search", "member", "places", "place", "total", "member_prices", "place_prices", "row", "cost"]) (sc := defScope s_best_matching) (by decide +kernel)) (fun _ _ _ _ _ => pg_tup (by rfl) (pgs_cons (pg_name (i := 2) sc_best_matching.nd rfl (by first | exact Or.inl rfl | exact Or.inr rfl)) (pgs_cons (pg_name (i := 4) sc_best_matching.nd rfl (by first | exact Or.inl rfl | exact Or.inr rfl)) pgs_nil))) (fun _ _ _ _ _ => pts_nil) (fun _ _ _ _ _ => (pe_ix (r := rIxL K) ix_list (pe_ix (r := rIxL K) ix_list (pv 0) (pv 2) (fun _ _ => rfl)) (pv 4) (fun _ _ => rfl)))) pa_nil)))
      (pss_cons (ps_setLc (i := 6) (own := [("cost", 9)]) (g := gName 9) (tt := tYes) rfl sc_best_matching.nd rfl rfl (sw_true rfl rfl rfl (by decide +kernel)) (pi_list (pe_slice sl_list (pe_fldK (K := K) (pv 1)) (po_some pe_int) po_none)) (blkOk_by (N := ["weights", "search", "member", "places", "place", "total", "member_prices", "place_prices", "row", "cost"]) (sc := defScope s_best_matching) (by decide +kernel)) (fun _ _ _ _ _ => pg_name (i := 9) sc_best_matching.nd rfl (by first | exact Or.inl rfl | exact Or.inr rfl)) (fun _ _ _ _ _ => pts_nil) (fun _ _ _ _ _ => (pe_op op_sub pe_int (pv 9))))
      (pss_cons (ps_setLc (i := 7) (own := [("cost", 9)]) (g := gName 9) (tt := tYes) rfl sc_best_matching.nd rfl rfl (sw_true rfl rfl rfl (by decide +kernel)) (pi_list (pe_slice sl_list (pe_fldK (K := K) (pv 1)) (po_some pe_int) po_none)) (blkOk_by (N := ["weights", "search", "member", "places", "place", "total", "member_prices", "place_prices", "row", "cost"]) (sc := defScope s_best_matching) (by decide +kernel)) (fun _ _ _ _ _ => pg_name (i := 9) sc_best_matching.nd rfl (by first | exact Or.inl rfl | exact Or.inr rfl)) (fun _ _ _ _ _ => pts_nil) (fun _ _ _ _ _ => (pe_op op_sub pe_int (pv 9))))
      (pss_one (ps_ret (pe_make T.m_Matching (ok_Matching___init__ T) (hr.mono (by decide)) (by rfl) T.g_Matching T.b_Matching___init__ .nil pass0 (pa_cons (pv 3) (pa_cons (pv 5) (pa_cons (pv 6) (pa_cons (pv 7) pa_nil)))))))))))))), ?_⟩
  try simp only [nox_K, cx_K]
  have wl := W.len
  wtm_at "rd"
  refine r_itl (SqL.of W.ls) ?_
  refine lc_lsts (itemsOf H) (SqL.of W.ls) (by rw [List.length_map]; omega) (fun x H' QQ hx s' hQ => ?_) fun D us H1 nD lus nus fus hD hus s1 => ?_
  · obtain ⟨r, hr, rfl⟩ := List.mem_map.mp hx
    obtain ⟨j, hj⟩ := List.getElem?_of_mem hr
    have hrr := W.row j r hj
    rw [items_lst hrr] at hQ
    wtm_at "rd"
    exact r_listA (.inl (SqL.of (s' _ _ hrr))) hQ
  rw [List.length_map, wl] at lus
  have hrow : ∀ (i : Nat) (r : Addr), us[i]? = some r → H1 r = some (.lst (intF (w i) n)) := fun i r hr => by
    have hi : i < rows.length := by rw [wl, ← lus]; exact (List.getElem?_eq_some_iff.mp hr).1
    have z := hus i r (.ref rows[i]) hr (by rw [List.getElem?_map, List.getElem?_eq_getElem hi]; rfl)
    rw [items_lst (W.row i _ (List.getElem?_eq_getElem hi))] at z
    exact z
  wtm_at "rd"
  intro x dx nx nd nxd
  have s0 : Same H1 (upd (upd H1 dx (.own x)) x (.ins T.C_Search dx [])) := same_two nx nd
  have us0 : ∀ (i : Nat) (r : Addr), us[i]? = some r → r ≠ x := fun i r hr => ne_of_none (hrow i r hr) nx
  refine ⟨x, dx, D, us, n, w, rfl, upd_same, s0 _ _ hD, ne_of_none hD nx, lus, by omega, fun i r hr => ⟨us0 i r hr, (fus r (List.mem_of_getElem? hr)).2, s0 _ _ (hrow i r hr)⟩, fun z H2 zx zw h2 E2 fz => ⟨rfl, ?_⟩⟩
  have s2 : Same H1 H2 := fun b o e => E2 b o (s0 _ _ e) fun y => by
    rw [List.mem_singleton.mp y, nx] at e
    cases e
  rw [← zx]
  have f3 : H1 z.au = none ∧ H1 z.av = none ∧ H1 z.ap = none := ⟨s0.free fz.1, s0.free fz.2.1, s0.free fz.2.2⟩
  wtm_at "rd"
  refine r_for (r_rng2 ?_)
  wtm_at "rd"
  refine r_get (h2.get 0 rfl) T.c_Search T.nf_Search_many (se_many ..) ?_
  wtm_at "rd"
  refine r_from (by omega) (by omega) ?_
  refine for_range (fun k σ H' => ∃ (y2 y3 y4 y5 y6 y7 y8 y9 : Option V), σ = [some (.ref a), some (.ref z.x), y2, y3, y4, y5, y6, y7, y8, y9] ∧ Hs (Ow T.C_Search z us n (hung n (cW w) k).u (hung n (cW w) k).v (hung n (cW w) k).p) us n w H' ∧ Same H1 H') ⟨_, _, _, _, _, _, _, _, rfl, h2, s2⟩ ?_ ?_
  · rintro k σ H3 hk ⟨y2, y3, y4, y5, y6, y7, y8, y9, rfl, h3, s3⟩
    have hk : k < n := by omega
    rw [show (1 + (k : Int)) = ((k + 1 : Nat) : Int) by omega]
    wtm_at "rd"
    refine r_who (h3.get 0 rfl) (se_no _ _ _ _ _ (by decide +kernel) (by decide +kernel) (by decide +kernel) (by decide +kernel) (by decide +kernel)) ?_
    wtm_at "rd"
    refine ⟨z, us, n, k, w, hung n (cW w) k, rfl, h3, by omega, hk, hung_out n (cW w) k (by omega), fun H4 h4 E4 => ?_⟩
    wtm_at "rd"
    refine ⟨_, _, _, _, _, _, _, _, rfl, h4, fun b o e => E4 b o (s3 _ _ e) fun y => ?_⟩
    simp only [List.mem_cons, List.mem_nil_iff, or_false] at y
    rcases y with rfl | rfl | rfl
    · rw [f3.1] at e; cases e
    · rw [f3.2.1] at e; cases e
    · rw [f3.2.2] at e; cases e
  rintro σ H3 ⟨y2, y3, y4, y5, y6, y7, y8, y9, rfl, h3, s3⟩
  have e0 : ((n : Int) + 1 - 1).toNat = n := by omega
  rw [e0] at h3
  wtm_at "rd"
  refine r_new rfl fun c0 n_c0 => ?_
  generalize eq_c0 : upd _ c0 _ = G0
  have s_c0 : Same _ G0 := eq_c0 ▸ same_new n_c0
  have h_c0 : G0 c0 = some _ := eq_c0 ▸ upd_same
  clear eq_c0
  have h3 := h3.same s_c0
  have s3 := s3.trans s_c0
  wtm_at "rd"
  refine r_get (h3.get 0 rfl) T.c_Search T.nf_Search_many (se_many ..) ?_
  wtm_at "rd"
  refine r_rep h_c0 (by omega) fun pl n_pl => ?_
  have f_pl : H1 pl = none := s3.free n_pl
  have h4 := h3.push (o := .lst (lsF (fun _ => .int 0) n)) n_pl (same_new n_pl) upd_same
  have s4 := s3.trans (same_new (o := .lst (lsF (fun _ => .int 0) n)) n_pl)
  revert h4 s4
  generalize upd G0 pl _ = H4
  intro h4 s4
  wtm_at "rd"
  refine r_for (r_rng2 ?_)
  wtm_at "rd"
  refine r_get (h4.get 0 rfl) T.c_Search T.nf_Search_many (se_many ..) ?_
  wtm_at "rd"
  refine r_from (by omega) (by omega) ?_
  have O := hung_out n (cW w) n (Nat.le_refl _)
  have P1 := hung_end n (cW w)
  refine for_range (fun k σ H' => ∃ (y2 y4 y5 y6 y7 y8 y9 : Option V), σ = [some (.ref a), some (.ref z.x), y2, some (.ref pl), y4, y5, y6, y7, y8, y9] ∧ Hs (Ow T.C_Search z us n (hung n (cW w) n).u (hung n (cW w) n).v (hung n (cW w) n).p ++ [(pl, .lst (natF (plK (hung n (cW w) n).p k) n))]) us n w H' ∧ Same H1 H') ⟨_, _, _, _, _, _, _, rfl, h4, s4⟩ ?_ ?_
  · rintro k σ H5 hk ⟨y2, y4, y5, y6, y7, y8, y9, rfl, h5, s5⟩
    have hk : k < n := by omega
    have p1 := P1 (k + 1) (by omega) (by omega)
    have p2 := O.le (k + 1) (by omega) (by omega)
    rw [show (1 + (k : Int)) = ((k + 1 : Nat) : Int) by omega]
    wtm_at "rd"
    refine r_get (h5.get 0 rfl) T.c_Search T.nf_Search_holders (se_holders ..) ?_
    wtm_at "rd"
    refine r_ixL (SqL.of (h5.get 4 rfl)) (at_lsF (by omega)) ?_
    wtm_at "rd"
    refine r_setL (n := (hung n (cW w) n).p (k + 1) - 1) (h5.get 5 rfl) (by rw [show (((hung n (cW w) n).p (k + 1) : Nat) : Int) - 1 = (((hung n (cW w) n).p (k + 1) - 1 : Nat) : Int) by omega]; exact ixn_lsF (by omega)) ?_
    rw [show ((k + 1 : Nat) : Int) - 1 = ((k : Nat) : Int) by omega, set_natF]
    have h6 := h5.put 5 rfl (o' := .lst (natF (plK (hung n (cW w) n).p (k + 1)) n))
    wtm_at "rd"
    exact ⟨_, _, _, _, _, _, _, rfl, h6, fun b o e => (upd_ne (ne_of_none e f_pl)).trans (s5 _ _ e)⟩
  rintro σ H5 ⟨y2, y4, y5, y6, y7, y8, y9, rfl, h5, s5⟩
  rw [e0] at h5
  have hpl : H5 pl = some (.lst (natF (hPl n w) n)) := h5.get 5 rfl
  have W5 := W.same (s1.trans s5)
  wtm_at "rd"
  refine r_enum ?_
  wtm_at "rd"
  refine ⟨pl, _, rfl, SqL.of hpl, ?_⟩
  show lcGo _ _ _ _ [2, 4] _ _ _
  refine lc_enum (fun i => .int (w i (hPl n w i))) (SqL.of hpl) (by rw [natF, lsF_len]; omega) (fun _ _ => rfl) (fun i v H' QQ hv s' hQ => ?_) fun l6 H6 n6 s6 h6 => ?_
  · have hi : i < n := by
      have := (List.getElem?_eq_some_iff.mp hv).1
      rw [natF, lsF_len] at this
      exact this
    rw [natF, lsF_get hi] at hv
    cases hv
    have hr : rows[i]? = some (rows[i]'(by rw [wl]; exact hi)) := List.getElem?_eq_getElem _
    wtm_at "rd"
    refine r_ixL (SqL.of (s' _ _ W5.ls)) (atI_nat (by rw [List.getElem?_map, hr]; rfl)) ?_
    wtm_at "rd"
    refine r_ixL (SqL.of (s' _ _ (W5.row i _ hr))) (at_lsF ((hung_best n w).lt hi)) ?_
    exact hQ
  rw [natF, lsF_len] at h6
  rw [intF_ints] at h6
  wtm_at "rd"
  refine ⟨l6, _, rfl, SqL.of h6, ?_⟩
  have h5 := h5.same s6
  have s6' := s5.trans s6
  wtm_at "rd"
  refine r_get (h5.get 0 rfl) T.c_Search T.nf_Search_member_costs (se_member_costs ..) ?_
  wtm_at "rd"
  refine r_slL (SqL.of (h5.get 2 rfl)) fun c1 n_c1 => ?_
  rw [intF_tail]
  generalize eq_c1 : upd _ c1 _ = G1
  have s_c1 : Same _ G1 := eq_c1 ▸ same_new n_c1
  have h_c1 : G1 c1 = some _ := eq_c1 ▸ upd_same
  clear eq_c1
  have h5 := h5.same s_c1
  have s6' := s6'.trans s_c1
  refine r_itl (SqL.of h_c1) ?_
  refine lc_map negV (SqL.of h_c1) (by rw [intF, lsF_len]; omega) (fun v H' QQ hv s' hQ => ?_) fun mp n_mp => ?_
  · obtain ⟨k, hk, rfl⟩ := List.mem_map.mp hv
    wtm_at "rd"
    exact hQ
  rw [neg_intF]
  have f_mp : H1 mp = none := s6'.free n_mp
  have e_mp : pl ≠ mp := ne_of_none (h5.get 5 rfl) n_mp
  generalize eq_mp : upd _ mp _ = G2
  have s_mp : Same _ G2 := eq_mp ▸ same_new n_mp
  have h_mp : G2 mp = some _ := eq_mp ▸ upd_same
  clear eq_mp
  have h5 := h5.same s_mp
  have s6' := s6'.trans s_mp
  wtm_at "rd"
  refine r_get (h5.get 0 rfl) T.c_Search T.nf_Search_place_costs (se_place_costs ..) ?_
  wtm_at "rd"
  refine r_slL (SqL.of (h5.get 3 rfl)) fun c2 n_c2 => ?_
  rw [intF_tail]
  generalize eq_c2 : upd _ c2 _ = G3
  have s_c2 : Same _ G3 := eq_c2 ▸ same_new n_c2
  have h_c2 : G3 c2 = some _ := eq_c2 ▸ upd_same
  clear eq_c2
  have h5 := h5.same s_c2
  have s6' := s6'.trans s_c2
  have h_mp := s_c2 _ _ h_mp
  refine r_itl (SqL.of h_c2) ?_
  refine lc_map negV (SqL.of h_c2) (by rw [intF, lsF_len]; omega) (fun v H' QQ hv s' hQ => ?_) fun pp n_pp => ?_
  · obtain ⟨k, hk, rfl⟩ := List.mem_map.mp hv
    wtm_at "rd"
    exact hQ
  rw [neg_intF]
  have f_pp : H1 pp = none := s6'.free n_pp
  have e_pp : pl ≠ pp := ne_of_none (h5.get 5 rfl) n_pp
  have e_mpp : mp ≠ pp := ne_of_none h_mp n_pp
  generalize eq_pp : upd _ pp _ = G4
  have s_pp : Same _ G4 := eq_pp ▸ same_new n_pp
  have h_pp : G4 pp = some _ := eq_pp ▸ upd_same
  clear eq_pp
  have h5 := h5.same s_pp
  have s6' := s6'.trans s_pp
  have h_mp := s_pp _ _ h_mp
  have hpl : G4 pl = some (.lst (natF (hPl n w) n)) := h5.get 5 rfl
  wtm_at "rd"
  intro x2 dx2 nx2 nd2 nxd2
  have sx : Same G4 (upd (upd G4 dx2 (.own x2)) x2 (.ins T.C_Matching dx2 [])) := same_two nx2 nd2
  refine ⟨x2, dx2, pl, mp, pp, _, rfl, upd_same, rfl, ?_⟩
  rw [upd_upd]
  have sy : Same G4 (upd (upd G4 dx2 (.own x2)) x2 (.ins T.C_Matching dx2 (maF pl ((List.range n).map fun i => w i (hPl n w i)).sum mp pp))) := fun b o e => (upd_ne (ne_of_none e nx2)).trans ((upd_ne (ne_of_none e nd2)).trans e)
  exact q x2 pl mp pp _ ((s1.trans s6').trans sy) ⟨⟨dx2, upd_same⟩, sy _ _ hpl, sy _ _ h_mp, sy _ _ h_pp⟩ ⟨s1.free (s6'.free nx2), s1.free f_pl, s1.free f_mp, s1.free f_pp⟩ ⟨e_mp, e_pp, e_mpp⟩
end

open Hg
theorem kit_ib {K : PySem.W.Frag} : PySem.W.kitOne K (.type "int") (.type "bool") = some false := by
  unfold PySem.W.kitOne
  rw [if_neg (by decide)]
  first | rfl | (unfold PySem.W.kitCls; rfl) | (unfold PySem.W.kitCls; decide +kernel)
theorem kit_self {K : PySem.W.Frag} {v : Value} : PySem.W.kitOne K v v = some true := by
  unfold PySem.W.kitOne
  rw [if_pos (beq_self_eq_true v)]
theorem ints_intF {ss : List Int} {n : Nat} (h : ss.length = n) : ss.map V.int = intF (fun j => ss.getD j 0) n := by
  refine List.ext_getElem? fun j => ?_
  by_cases hj : j < n
  · rw [intF, lsF_get hj, List.getElem?_map, List.getElem?_eq_getElem (by omega), List.getD_eq_getElem?_getD, List.getElem?_eq_getElem (by omega)]
    rfl
  · rw [List.getElem?_eq_none (by rw [List.length_map]; omega), List.getElem?_eq_none (by rw [intF, lsF_len]; omega)]
def NoD (d c r : Addr) (a : Addr) (rows : List Addr) : Prop := (a ≠ d ∧ a ≠ r ∧ a ≠ c) ∧ ∀ b ∈ rows, b ≠ d ∧ b ≠ r ∧ b ≠ c
def spWeights : Sp := fun vs H Q _ => ∃ (d c r : Addr), vs = [.ref d] ∧ Drw H d c r ∧ ∀ (a : Addr) (n : Nat) (w : Nat → Nat → Int) (rows : List Addr) (H' : Hp), WAt H' a n w rows → n ≤ 6 → NoD d c r a rows → Drw H' d c r → Ext d r H H' → Q (.ref a) H'
def spWhole : Sp := fun vs H Q _ => ∃ i : Int, vs = [.int i] ∧ Q (.bl true) H
section
variable {P : Program} {w : World} {K : PySem.W.Frag} {mg : Str → Option Value} {base : Heap}
theorem ok__law_weights (T : Txt K mg) : FnOk P w K mg base CX0 3 T.f__law_weights T.d__law_weights ["_law_draws"] spWeights := by
  refine T.F__law_weights.ok sc__law_weights (fun vs H Q E h => ?_) (fun cdv A outer s H vs Q E hr h => ?_)
  · obtain ⟨d, c, r, rfl, _⟩ := h
    rfl
  obtain ⟨d, c, r, rfl, D, q⟩ := h
  refine ⟨_, (pss_cons (ps_set (i := 1) sc__law_weights.nd rfl (by first | exact Or.inl rfl | exact Or.inr rfl) (pe_call (ok__law_draw T) (hr.mono (by decide)) (by rfl) T.g__law_draw T.F__law_draw.kp T.b__law_draw .nil pass0 (pa_cons (pv 0) (pa_cons pe_int pa_nil))))
      (pss_cons (ps_set (i := 2) sc__law_weights.nd rfl (by first | exact Or.inl rfl | exact Or.inr rfl) (pe_ix (r := rIxL K) ix_list (pe_lst (pa_cons pe_int (pa_cons pe_int (pa_cons pe_int (pa_cons (pe_op op_pow pe_int pe_int) pa_nil))))) (pe_call (ok__law_draw T) (hr.mono (by decide)) (by rfl) T.g__law_draw T.F__law_draw.kp T.b__law_draw .nil pass0 (pa_cons (pv 0) (pa_cons pe_int pa_nil))) (fun _ _ => rfl)))
      (pss_cons (ps_set (i := 3) sc__law_weights.nd rfl (by first | exact Or.inl rfl | exact Or.inr rfl) (pe_lst pa_nil))
      (pss_cons (ps_for PassesOwn.never rfl (pi_range1 (by rfl) T.z_range (pa_cons (pv 1) pa_nil)) (pg_name (i := 4) sc__law_weights.nd rfl (by first | exact Or.inl rfl | exact Or.inr rfl)) (pss_one (ps_if (PW.pt (pw_and (pt_cmpR op_gt (pv 4) pe_int (nomark _)) (pw_and1 (pt_cmpR op_eq (pe_call (ok__law_draw T) (hr.mono (by decide)) (by rfl) T.g__law_draw T.F__law_draw.kp T.b__law_draw .nil pass0 (pa_cons (pv 0) (pa_cons pe_int pa_nil))) pe_int (nomark _))))) (pss_one (ps_expr (pe_bm PySem.F.plainAttrs_list PySem.F.slot_list_append PySem.F.type_list_append mt_append (pv 3) (pa_cons (pe_callTy c_listA (by rfl) T.z_list (by decide +kernel) (pa_cons (pe_ix (r := rIxL K) ix_list (pv 3) (pe_call (ok__law_draw T) (hr.mono (by decide)) (by rfl) T.g__law_draw T.F__law_draw.kp T.b__law_draw .nil pass0 (pa_cons (pv 0) (pa_cons (pv 4) pa_nil))) (fun _ _ => rfl)) pa_nil)) pa_nil)))) (pss_one (ps_expr (pe_bm PySem.F.plainAttrs_list PySem.F.slot_list_append PySem.F.type_list_append mt_append (pv 3) (pa_cons (pe_lc (own := [("_law_j", 5)]) (g := gName 5) (tt := tYes) rfl sc__law_weights.nd (pi_range1 (by rfl) T.z_range (pa_cons (pv 1) pa_nil)) (blkOk_by (N := ["_law_draws", "_law_many", "_law_wide", "_law_found", "_law_k", "_law_j"]) (sc := defScope s__law_weights) (by decide +kernel)) (fun _ _ _ _ _ => pg_name (i := 5) sc__law_weights.nd rfl (by first | exact Or.inl rfl | exact Or.inr rfl)) (fun _ _ _ _ _ => pts_nil) (fun _ _ _ _ _ => (pe_op op_sub (pe_call (ok__law_draw T) (hr.mono (by decide)) (by rfl) T.g__law_draw T.F__law_draw.kp T.b__law_draw .nil pass0 (pa_cons (pv 0) (pa_cons (pe_op op_add (pe_op op_mul pe_int (pv 2)) pe_int) pa_nil))) (pv 2)))) pa_nil)))))))
      (pss_one (ps_ret (pv 3))))))), ?_⟩
  try simp only [nox_K, cx_K]
  wtm_at "rd"
  refine ⟨d, c, r, 7, rfl, D, by decide, by decide, fun nn H1 n0 n13 D1 E1 => ?_⟩
  obtain ⟨n, rfl⟩ : ∃ n : Nat, nn = (n : Int) := ⟨nn.toNat, by omega⟩
  wtm_at "rd"
  refine ⟨10, 9, rfl, rfl, by unfold CPow; decide, ?_⟩
  wtm_at "rd"
  have D1o := D1
  refine r_new rfl fun wl n_wl => ?_
  generalize eq_wl : upd _ wl _ = H2
  have s_wl : Same _ H2 := eq_wl ▸ same_new n_wl
  have h_wl : H2 wl = some _ := eq_wl ▸ upd_same
  clear eq_wl
  have D1 := D1.same s_wl
  have E1 := E1.trans (Ext.of s_wl)
  have wld := D1o.ned n_wl
  have wlr := D1o.ner n_wl
  wtm_at "rd"
  refine ⟨d, c, r, 4, rfl, D1, by decide, by decide, fun k5 H3 k50 k55 D3 E3 => ?_⟩
  have h_wl := E3 _ _ h_wl wld wlr
  have E3 := E1.trans E3
  obtain ⟨wide, hwide, w1, w2⟩ : ∃ wide : Int, atI [V.int 1, .int 3, .int 50, .int (10 ^ 9)] k5 = some (.int wide) ∧ 0 < wide ∧ wide ≤ 10 ^ 30 := by
    obtain rfl | rfl | rfl | rfl : k5 = 0 ∨ k5 = 1 ∨ k5 = 2 ∨ k5 = 3 := by omega
    · exact ⟨1, rfl, by decide, by decide⟩
    · exact ⟨3, rfl, by decide, by decide⟩
    · exact ⟨50, rfl, by decide, by decide⟩
    · exact ⟨10 ^ 9, rfl, by decide, by decide⟩
  refine r_ixL (SqL.of h_wl) hwide ?_
  have D3o := D3
  have E3o := E3
  wtm_at "rd"
  refine r_new rfl fun fd n_fd => ?_
  generalize eq_fd : upd _ fd _ = H4
  have s_fd : Same _ H4 := eq_fd ▸ same_new n_fd
  have h_fd : H4 fd = some _ := eq_fd ▸ upd_same
  clear eq_fd
  have D3 := D3.same s_fd
  have E3 := E3.trans (Ext.of s_fd)
  have fdd := D3o.ned n_fd
  have fdr := D3o.ner n_fd
  have fdc := D3o.nec n_fd
  have f_fd : H fd = none := by
    cases e : H fd with
    | none => rfl
    | some o =>
      have y := E3o fd o e fdd fdr
      rw [n_fd] at y
      cases y
  wtm_at "rd"
  refine r_for (r_rng1 ?_)
  wtm_at "rd"
  refine r_upto (by omega) (by omega) ?_
  refine for_range (fun i σ H' => ∃ (y4 y5 : Option V) (rows : List Addr) (w : Nat → Nat → Int), σ = [some (.ref d), some (.int (n : Int)), some (.int wide), some (.ref fd), y4, y5] ∧ H' fd = some (.lst (rows.map V.ref)) ∧ rows.length = i ∧ (∀ (j : Nat) (b : Addr), rows[j]? = some b → H' b = some (.lst (intF (w j) n))) ∧ (∀ b ∈ rows, b ≠ d ∧ b ≠ r ∧ b ≠ c ∧ b ≠ fd) ∧ Drw H' d c r ∧ Ext d r H H') ⟨_, _, [], fun _ _ => 0, rfl, h_fd, rfl, fun j b h => (by cases h), fun b h => (by cases h), D3, E3⟩ ?_ ?_
  · rintro i σ H5 hi ⟨y4, y5, rows, w, rfl, h5, hl, hr5, hd5, D5, E5⟩
    have hi : i < n := by omega
    -- a new row is put at the end
    have fin : ∀ (b : Addr) (g : Nat → Int) (H6 : Hp), H6 fd = some (.lst (rows.map V.ref)) → (∀ (j : Nat) (a : Addr), rows[j]? = some a → H6 a = some (.lst (intF (w j) n))) → H6 b = some (.lst (intF g n)) → b ≠ d ∧ b ≠ r ∧ b ≠ c ∧ b ≠ fd → Drw H6 d c r → Ext d r H H6 → 
        ((upd H6 fd (.lst (rows.map V.ref ++ [.ref b]))) fd = some (.lst ((rows ++ [b]).map V.ref)) ∧ (rows ++ [b]).length = i + 1 ∧ (∀ (j : Nat) (a : Addr), (rows ++ [b])[j]? = some a → (upd H6 fd (.lst (rows.map V.ref ++ [.ref b]))) a = some (.lst (intF (fset w i g j) n))) ∧ (∀ a ∈ rows ++ [b], a ≠ d ∧ a ≠ r ∧ a ≠ c ∧ a ≠ fd) ∧ Drw (upd H6 fd (.lst (rows.map V.ref ++ [.ref b]))) d c r ∧ Ext d r H (upd H6 fd (.lst (rows.map V.ref ++ [.ref b])))) := by
      intro b g H6 h6 hr6 hb nb D6 E6
      refine ⟨by rw [upd_same, List.map_append]; rfl, by rw [List.length_append, hl]; rfl, fun j a ha => ?_, fun a ha => ?_, D6.put fdd fdr fdc, fun a o e m1 m2 => (upd_ne (fun y => ?_)).trans (E6 a o e m1 m2)⟩
      · rcases Nat.lt_or_ge j rows.length with hj | hj
        · rw [List.getElem?_append_left hj] at ha
          rw [upd_ne (hd5 a (List.mem_of_getElem? ha)).2.2.2, fset_ne (by omega)]
          exact hr6 j a ha
        · rw [List.getElem?_append_right hj] at ha
          cases hk : j - rows.length with
          | zero =>
            rw [hk] at ha
            cases ha
            rw [upd_ne nb.2.2.2, show j = i by omega, fset_same]
            exact hb
          | succ m => rw [hk] at ha; cases ha
      · rcases List.mem_append.mp ha with y | y
        · exact hd5 a y
        · rw [List.mem_singleton.mp y]; exact nb
      · rw [y, f_fd] at e
        cases e
    wtm_at "rd"
    refine r_ite (fun e1 => ?_) (fun e1 => ?_)
    · wtm_at "rd"
      refine ⟨d, c, r, 4, rfl, D5, by decide, by decide, fun k6 H6 k60 k64 D6 E6 => ?_⟩
      have hf := E6 _ _ h5 fdd fdr
      have hrr := fun (j : Nat) (a : Addr) (ha : rows[j]? = some a) => E6 _ _ (hr5 j a ha) (hd5 a (List.mem_of_getElem? ha)).1 (hd5 a (List.mem_of_getElem? ha)).2.1
      have E6 := E5.trans E6
      wtm_at "rd"
      refine r_ite (fun e2 => ?_) (fun e2 => ?_)
      · wtm_at "rd"
        refine r_tyL (SqL.of hf) ?_
        wtm_at "rd"
        refine ⟨d, c, r, _, rfl, D6, by omega, by omega, fun k7 H7 k70 k77 D7 E7 => ?_⟩
        have hf7 := E7 _ _ hf fdd fdr
        have hr7 := fun (j : Nat) (a : Addr) (ha : rows[j]? = some a) => E7 _ _ (hrr j a ha) (hd5 a (List.mem_of_getElem? ha)).1 (hd5 a (List.mem_of_getElem? ha)).2.1
        have E7 := E6.trans E7
        have hk7 : k7.toNat < rows.length := by omega
        have hrk : rows[k7.toNat]? = some rows[k7.toNat] := List.getElem?_eq_getElem hk7
        refine r_ixL (SqL.of hf7) (by have y : atI (rows.map V.ref) (k7.toNat : Int) = some (.ref rows[k7.toNat]) := atI_nat (by rw [List.getElem?_map, hrk]; rfl); rw [Int.toNat_of_nonneg k70] at y; exact y) ?_
        wtm_at "rd"
        refine r_listA (.inl (SqL.of (hr7 _ _ hrk))) fun b nb => ?_
        have bd := D7.ned nb
        have br := D7.ner nb
        have bc := D7.nec nb
        have bf := (ne_of_none hf7 nb).symm
        have sb := same_new (o := .lst (intF (w k7.toNat) n)) nb
        have hb : (upd H7 b (.lst (intF (w k7.toNat) n))) b = some (.lst (intF (w k7.toNat) n)) := upd_same
        wtm_at "rd"
        refine r_app (sb _ _ hf7) (small1000 (by rw [List.length_map]; omega)) ?_
        wtm_at "rd"
        have z := fin b _ _ (sb _ _ hf7) (fun j a ha => sb _ _ (hr7 j a ha)) hb ⟨bd, br, bc, bf⟩ (D7.same sb) (E7.trans (Ext.of sb))
        exact ⟨_, _, rows ++ [b], _, rfl, z.1, z.2.1, z.2.2.1, z.2.2.2.1, z.2.2.2.2.1, z.2.2.2.2.2⟩
      · have hh := 0
        wtm_at "rd"
        refine r_tyL (SqL.of hf) ?_
        wtm_at "rd"
        wtm_at "rd"
        refine r_upto (by omega) (by omega) ?_
        refine lc_draws (P := fun _ => True) (by omega) D6 (fun j H7 QQ hj D7 E7 hQ => ?_) (fun b ss H7 lss _ nb hb D7 E7 => ?_)
        · wtm_at "rd"
          refine ⟨2, wide, rfl, rfl, .inl (by decide), ?_⟩
          wtm_at "rd"
          refine ⟨d, c, r, 2 * wide + 1, rfl, D7, by omega, by omega, fun k8 H8 _ _ D8 E8 => ?_⟩
          wtm_at "rd"
          exact hQ _ _ trivial D8 E8
        rw [Int.toNat_natCast] at lss
        rw [ints_intF lss] at hb
        have hf7 := E7 _ _ hf fdd fdr
        have hr7 := fun (j : Nat) (a : Addr) (ha : rows[j]? = some a) => E7 _ _ (hrr j a ha) (hd5 a (List.mem_of_getElem? ha)).1 (hd5 a (List.mem_of_getElem? ha)).2.1
        wtm_at "rd"
        refine r_app hf7 (small1000 (by rw [List.length_map]; omega)) ?_
        wtm_at "rd"
        have z := fin b _ H7 hf7 hr7 hb ⟨D6.ned nb, D6.ner nb, D6.nec nb, (ne_of_none hf nb).symm⟩ D7 (E6.trans E7)
        exact ⟨_, _, rows ++ [b], _, rfl, z.1, z.2.1, z.2.2.1, z.2.2.2.1, z.2.2.2.2.1, z.2.2.2.2.2⟩
    · have hf := h5
      have hrr := hr5
      wtm_at "rdi"
      refine r_tyL (SqL.of hf) ?_
      wtm_at "rd"
      wtm_at "rd"
      refine r_upto (by omega) (by omega) ?_
      refine lc_draws (P := fun _ => True) (by omega) D5 (fun j H7 QQ hj D7 E7 hQ => ?_) (fun b ss H7 lss _ nb hb D7 E7 => ?_)
      · wtm_at "rd"
        refine ⟨2, wide, rfl, rfl, .inl (by decide), ?_⟩
        wtm_at "rd"
        refine ⟨d, c, r, 2 * wide + 1, rfl, D7, by omega, by omega, fun k8 H8 _ _ D8 E8 => ?_⟩
        wtm_at "rd"
        exact hQ _ _ trivial D8 E8
      rw [Int.toNat_natCast] at lss
      rw [ints_intF lss] at hb
      have hf7 := E7 _ _ hf fdd fdr
      have hr7 := fun (j : Nat) (a : Addr) (ha : rows[j]? = some a) => E7 _ _ (hrr j a ha) (hd5 a (List.mem_of_getElem? ha)).1 (hd5 a (List.mem_of_getElem? ha)).2.1
      wtm_at "rd"
      refine r_app hf7 (small1000 (by rw [List.length_map]; omega)) ?_
      wtm_at "rd"
      have z := fin b _ H7 hf7 hr7 hb ⟨D5.ned nb, D5.ner nb, D5.nec nb, (ne_of_none hf nb).symm⟩ D7 (E5.trans E7)
      exact ⟨_, _, rows ++ [b], _, rfl, z.1, z.2.1, z.2.2.1, z.2.2.2.1, z.2.2.2.2.1, z.2.2.2.2.2⟩
  · rintro σ H5 ⟨y4, y5, rows, w, rfl, h5, hl, hr5, hd5, D5, E5⟩
    wtm_at "rd"
    rw [Int.toNat_natCast] at hl
    exact q fd n w rows _ ⟨h5, hl, hr5⟩ (by omega) ⟨⟨fdd, fdr, fdc⟩, fun b hb => ⟨(hd5 b hb).1, (hd5 b hb).2.1, (hd5 b hb).2.2.1⟩⟩ D5 E5
end

open Hg
/-- the places that are left, as values and as a key -/
def plV (l : List Nat) : List V := l.map fun p : Nat => V.int (p : Int)
def plKy (l : List Nat) : List Key := l.map fun p : Nat => Sum.inl (p : Int)
theorem plKy_V {l : List Nat} : plV l = (plKy l).map kV := by
  unfold plV plKy
  rw [List.map_map]
  rfl
theorem plKy_inj : ∀ {a b : List Nat}, plKy a = plKy b → a = b
  | [], [], _ => rfl
  | [], _ :: _, h => by cases h
  | _ :: _, [], h => by cases h
  | x :: a, y :: b, h => by
    unfold plKy at h
    rw [List.map_cons, List.map_cons] at h
    injection h with h1 h2
    have h1 := Sum.inl.inj h1
    rw [plKy_inj h2, show x = y by omega]
def cnt : Nat → Nat
  | 0 => 0
  | m + 1 => 1 + (m + 1) * cnt m
structure MemOk (w : Nat → Nat → Int) (n : Nat) (kvs : List (List Key × V)) : Prop where
  ok : ∀ (l : List Nat) (v : V), valV kvs (plKy l) = some v → v = .int (bst w n l)
def But (d : Addr) (H H' : Hp) : Prop := ∀ b o, H b = some o → b ≠ d → H' b = some o
theorem But.trans {d : Addr} {H H' H2 : Hp} (h : But d H H') (h' : But d H' H2) : But d H H2 := fun b o e n => h' b o (h b o e n) n
theorem But.of {d : Addr} {H H' : Hp} (h : Same H H') : But d H H' := fun b o e _ => h b o e
structure Left (n : Nat) (l : List Nat) : Prop where
  nd : l.Nodup
  lt : ∀ p ∈ l, p < n
  le : l.length ≤ n
theorem Left.oth {n : Nat} {l : List Nat} (h : Left n l) (p : Nat) : Left n (others l p) := ⟨others_nd h.nd, fun q hq => h.lt q (others_mem hq), Nat.le_trans (List.length_filter_le _ _) h.le⟩
/-- what a call asks and gives; m: more than the places that are left -/
def spLb (m : Nat) : Sp := fun vs H Q _ => ∃ (a t d : Addr) (n : Nat) (w : Nat → Nat → Int) (rows : List Addr) (l : List Nat) (kvs : List (List Key × V)), vs = [.ref a, .ref t, .ref d] ∧ l.length < m ∧ n ≤ 6 ∧ WAt H a n w rows ∧ a ≠ d ∧ d ∉ rows ∧ H t = some (.tup (plV l)) ∧ t ≠ d ∧ Left n l ∧ H d = some (.dT kvs) ∧ MemOk w n kvs ∧ kvs.length + cnt l.length ≤ 5000 ∧
  ∀ (H' : Hp) (kvs' : List (List Key × V)), H' d = some (.dT kvs') → MemOk w n kvs' → kvs'.length ≤ kvs.length + cnt l.length → But d H H' → Q (.int (bst w n l)) H'
theorem eqD_plV {l : List Nat} : ∀ v ∈ plV l, eqD v := fun v hv => by
  obtain ⟨k, _, rfl⟩ := List.mem_map.mp hv
  trivial
theorem WAt.but {d : Addr} {H H' : Hp} {a : Addr} {n : Nat} {w : Nat → Nat → Int} {rows : List Addr} (h : WAt H a n w rows) (s : But d H H') (n1 : a ≠ d) (n2 : d ∉ rows) : WAt H' a n w rows := ⟨s _ _ h.ls n1, h.len, fun i r hr => s _ _ (h.row i r hr) fun z => n2 (z ▸ List.mem_of_getElem? hr)⟩
theorem last_max {ns ns' : List Int} (p : ns'.Perm ns) (s : ns'.Pairwise (· ≤ ·)) (h : 0 < ns'.length) : kAt ns' (ns'.length - 1) = maxL ns := by
  have hl : ns'.length - 1 < ns'.length := by omega
  have e : kAt ns' (ns'.length - 1) = ns'[ns'.length - 1] := by rw [kAt, List.getD_eq_getElem?_getD, List.getElem?_eq_getElem hl]; rfl
  rw [e]
  refine maxL_is (p.mem_iff.mp (List.getElem_mem hl)) fun y hy => ?_
  obtain ⟨j, hj, rfl⟩ := List.getElem_of_mem (p.mem_iff.mpr hy)
  rcases Nat.lt_or_ge j (ns'.length - 1) with c | c
  · exact List.pairwise_iff_getElem.mp s j _ hj hl c
  · have : j = ns'.length - 1 := by omega
    subst this
    exact Int.le_refl _
theorem filt_pl {l : List Nat} {p : Nat} : (plV l).filter (fun v => !decide (v = .int (p : Int))) = plV (others l p) := by
  unfold plV others
  rw [List.filter_map]
  congr 1
  refine List.filter_congr fun q _ => ?_
  show (!decide (V.int (q : Int) = V.int (p : Int))) = decide (q ≠ p)
  by_cases e : q = p
  · subst e
    rw [decide_eq_true rfl, decide_eq_false (fun z => z rfl)]
    rfl
  · rw [decide_eq_false (fun z => e (by injection z with z; omega)), decide_eq_true e]
    rfl
theorem bst_cons {w : Nat → Nat → Int} {n q : Nat} {l : List Nat} (L : Left n l) (hq : l.length = q + 1) : bst w n l = maxL (l.map fun p => w (n - l.length) p + bst w n (others l p)) := by
  unfold bst
  rw [hq]
  show maxL _ = maxL _
  rw [hq]
  congr 1
  refine List.map_congr_left fun p hp => ?_
  have := others_len L.nd hp
  rw [show (others l p).length = q by omega]
theorem bst_nil {w : Nat → Nat → Int} {n : Nat} : bst w n [] = 0 := rfl
section
variable {P : Program} {w : World} {K : PySem.W.Frag} {mg : Str → Option Value} {base : Heap}

theorem ok__law_best (T : Txt K mg) : ∀ m : Nat, FnOk P w K mg base CX0 m T.f__law_best T.d__law_best ["_law_weights_here", "_law_left", "_law_met"] (spLb m)
  | 0 => ⟨fun vs H Q E h => by obtain ⟨a, t, d, n, w, rows, l, kvs, _, h, _⟩ := h; exact absurd h (by omega), fun A outer s H args us vs Q E _ _ _ _ h => by obtain ⟨a, t, d, n, w, rows, l, kvs, _, h, _⟩ := h; exact absurd h (by omega)⟩
  | m + 1 => by
    have ih := ok__law_best T m
    refine T.F__law_best.ok sc__law_best (fun vs H Q E h => ?_) (fun cdv A outer s H vs Q E hr h => ?_)
    · obtain ⟨a, t, d, n, w, rows, l, kvs, rfl, _⟩ := h
      rfl
    obtain ⟨a, t, d, n, w, rows, l, kvs, rfl, hm, n6, W, nad, ndr, ht, ntd, L, hd, mo, hc, q⟩ := h
    refine ⟨_, (pss_cons (ps_if (pt_cmpR (op_eqD hr.units) (pv 1) (pe_tup pa_nil) (nomark _)) (pss_one (ps_ret pe_int)) pss_nil)
      (pss_cons (ps_if (pt_cmp (pc_dnotin (hu_of hr) (pv 1) (pv 2))) (pss_cons (ps_set (i := 3) sc__law_best.nd rfl (by first | exact Or.inl rfl | exact Or.inr rfl) (pe_ix (r := rIxL K) ix_list (pv 0) (pe_op op_sub (pe_callB (r := rLenL K) (id := "len") c_len (by rfl) T.z_len (by decide +kernel) (pa_cons (pv 0) pa_nil)) (pe_callB (r := rLenL K) (id := "len") c_len (by rfl) T.z_len (by decide +kernel) (pa_cons (pv 1) pa_nil))) (fun _ _ => rfl)))
      (pss_cons (ps_set (i := 4) sc__law_best.nd rfl (by first | exact Or.inl rfl | exact Or.inr rfl) (pe_lst pa_nil))
      (pss_cons (ps_for PassesOwn.never rfl (pi_tup (pv 1)) (pg_name (i := 5) sc__law_best.nd rfl (by first | exact Or.inl rfl | exact Or.inr rfl)) (pss_cons (ps_set (i := 6) sc__law_best.nd rfl (by first | exact Or.inl rfl | exact Or.inr rfl) (pe_callTy c_tupA (by rfl) T.z_tuple (by decide +kernel) (pa_cons (pe_lc (own := [("_law_one", 7)]) (g := gName 7) rfl sc__law_best.nd (pi_tup (pv 1)) (blkOk_by (N := ["_law_weights_here", "_law_left", "_law_met", "_law_row", "_law_sums", "_law_place", "_law_others", "_law_one"]) (sc := defScope s__law_best) (by decide +kernel)) (fun _ _ _ _ _ => pg_name (i := 7) sc__law_best.nd rfl (by first | exact Or.inl rfl | exact Or.inr rfl)) (fun _ _ _ _ _ => (pts_one (pt_cmpR op_ne (pv 7) (pv 5) (nomark _)))) (fun _ _ _ _ _ => (pv 7))) pa_nil)))
      (pss_one (ps_expr (pe_bm PySem.F.plainAttrs_list PySem.F.slot_list_append PySem.F.type_list_append mt_append (pv 4) (pa_cons (pe_op op_add (pe_ix (r := rIxL K) ix_list (pv 3) (pv 5) (fun _ _ => rfl)) (pe_call ih hr (by rfl) T.g__law_best T.F__law_best.kp T.b__law_best .nil pass0 (pa_cons (pv 0) (pa_cons (pv 6) (pa_cons (pv 2) pa_nil))))) pa_nil))))))
      (pss_one (ps_dput (hu_of hr) (pv 2) (pv 1) (pe_ix (r := rIxL K) ix_list (pe_callB cr_sorted (by rfl) T.z_sorted (by decide +kernel) (pa_cons (pv 4) pa_nil)) (pe_un un_neg pe_int) (fun _ _ => rfl)) rfl))))) pss_nil)
      (pss_one (ps_ret (pe_dget (hu_of hr) (pv 2) (pv 1) (fun _ _ => rfl)))))), ?_⟩
    try simp only [nox_K, cx_K]
    have wl := W.len
    have W0 := W
    have ht0 := ht
    wtm_at "rd"
    refine r_new rfl fun e0 n_e0 => ?_
    generalize eq_e0 : upd _ e0 _ = G0
    have s_e0 : Same _ G0 := eq_e0 ▸ same_new n_e0
    have h_e0 : G0 e0 = some _ := eq_e0 ▸ upd_same
    clear eq_e0
    have ht := s_e0 _ _ ht
    have hd := s_e0 _ _ hd
    have W := W.same s_e0
    refine r_eqTT (SqT.of ht) (SqT.of h_e0) eqD_plV (fun v h => by cases h) (fun p h => by rw [List.zip_nil_right] at h; cases h) ?_
    wtm_at "rd"
    by_cases hl0 : l = []
    · subst hl0
      rw [decide_eq_true (show plV [] = [] from rfl)]
      wtm_at "rdi"
      exact q _ kvs hd mo (by omega) (But.of s_e0)
    rw [decide_eq_false (show ¬ plV l = [] from fun z => hl0 (List.map_eq_nil_iff.mp z))]
    wtm_at "rdi"
    rw [plKy_V] at ht
    refine r_dinT hd ht ?_
    wtm_at "rd"
    cases hv : valV kvs (plKy l) with
    | some v =>
      rw [Option.isSome_some]
      wtm_at "rdi"
      refine r_dgetT hd ht hv ?_
      rw [mo.ok l v hv]
      exact q _ kvs hd mo (by omega) (But.of s_e0)
    | none =>
      rw [Option.isSome_none]
      wtm_at "rdi"
      refine r_lenR W.ls ?_
      wtm_at "rd"
      refine ⟨t, _, rfl, .inr (SqT.of ht), ?_⟩
      rw [wl, List.length_map, show (plKy l).length = l.length from List.length_map ..]
      have l1 : 0 < l.length := List.length_pos_iff.mpr hl0
      have l2 := L.le
      wtm_at "rd"
      rw [show (n : Int) - (l.length : Int) = ((n - l.length : Nat) : Int) by omega]
      have hk : n - l.length < n := by omega
      have hr : rows[n - l.length]? = some (rows[n - l.length]'(by rw [wl]; exact hk)) := List.getElem?_eq_getElem _
      refine r_ixL (SqL.of W.ls) (atI_nat (by rw [List.getElem?_map, hr]; rfl)) ?_
      revert hr
      generalize rows[n - l.length]'_ = rk
      intro hr
      obtain ⟨lq, hlq⟩ : ∃ lq, l.length = lq + 1 := ⟨l.length - 1, by omega⟩
      wtm_at "rd"
      have b0 : But d H G0 := But.of s_e0
      refine r_new rfl fun sm n_sm => ?_
      generalize eq_sm : upd _ sm _ = G1
      have s_sm : Same _ G1 := eq_sm ▸ same_new n_sm
      have h_sm : G1 sm = some _ := eq_sm ▸ upd_same
      clear eq_sm
      have ht := s_sm _ _ ht
      have hd := s_sm _ _ hd
      have W := W.same s_sm
      have b1 : But d H G1 := b0.trans (But.of s_sm)
      have n_sm0 : H sm = none := s_e0.free n_sm
      have nsd : sm ≠ d := fun z => by rw [z] at h_sm; rw [h_sm] at hd; cases hd
      wtm_at "rd"
      refine r_for (r_it ?_)
      wtm_at "rd"
      refine r_itt (SqT.of ht) ?_
      rw [← plKy_V] at ht
      refine for_tup (K := K) (a := t) (xs := plV l) (fun i σ H' => ∃ (y5 y6 y7 : Option V) (kvs' : List (List Key × V)), σ = [some (.ref a), some (.ref t), some (.ref d), some (.ref rk), some (.ref sm), y5, y6, y7] ∧ H' sm = some (.lst (((l.take i).map fun p => w (n - l.length) p + bst w n (others l p)).map V.int)) ∧ H' d = some (.dT kvs') ∧ MemOk w n kvs' ∧ kvs'.length ≤ kvs.length + i * cnt lq ∧ But d H H') ⟨_, _, _, kvs, rfl, h_sm, hd, mo, by omega, b1⟩ (fun i σ H' _ ⟨_, _, _, _, _, _, _, _, _, b⟩ => SqT.of (b _ _ ht0 ntd)) ?_ ?_
      · rintro i v σ H2 hv2 ⟨y5, y6, y7, kvs2, rfl, hs2, hd2, mo2, le2, b2⟩
        unfold plV at hv2
        rw [List.getElem?_map] at hv2
        obtain ⟨p, hp, rfl⟩ := Option.map_eq_some_iff.mp hv2
        have hpm := List.mem_of_getElem? hp
        have hi : i < l.length := (List.getElem?_eq_some_iff.mp hp).1
        have W2 := W0.but b2 nad ndr
        have ht2 := b2 _ _ ht0 ntd
        have ol := others_len L.nd hpm
        wtm_at "rd"
        refine r_itt (SqT.of ht2) ?_
        refine lc_filtT (fun v => !decide (v = .int (p : Int))) (SqT.of ht2) (by rw [plV, List.length_map]; omega) (fun v H' QT hv s' hQ => ?_) (fun v H' QQ hv s' hQ => ?_) fun fl n_fl => ?_
        · obtain ⟨k, _, rfl⟩ := List.mem_map.mp hv
          wtm_at "rd"
          have e : decide (V.int (k : Int) = V.int (p : Int)) = decide ((k : Int) = (p : Int)) := decide_eq_decide.mpr ⟨fun z => by injection z, fun z => by rw [z]⟩
          rw [e] at hQ
          exact hQ
        · obtain ⟨k, _, rfl⟩ := List.mem_map.mp hv
          wtm_at "rd"
          exact hQ
        rw [filt_pl]
        have g_fl : (upd H2 fl (.lst (plV (others l p)))) fl = some (.lst (plV (others l p))) := upd_same
        have s_fl : Same H2 (upd H2 fl (.lst (plV (others l p)))) := same_new n_fl
        revert g_fl s_fl
        generalize upd H2 fl _ = H3
        intro h_fl s_fl
        wtm_at "rd"
        refine r_tupL (SqL.of h_fl) fun t2 n_t2 => ?_
        have s_t2 : Same H3 (upd H3 t2 (.tup (plV (others l p)))) := same_new n_t2
        have h_t2 : (upd H3 t2 (.tup (plV (others l p)))) t2 = some (.tup (plV (others l p))) := upd_same
        revert h_t2 s_t2
        generalize upd H3 t2 _ = H4
        intro s_t2 h_t2
        have s4 := s_fl.trans s_t2
        have hs4 := s4 _ _ hs2
        have hd4 := s4 _ _ hd2
        have W4 := W2.same s4
        have b4 : But d H H4 := b2.trans (But.of s4)
        wtm_at "rd"
        refine r_tyL (SqL.of hs4) ?_
        wtm_at "rd"
        refine r_ixL (SqL.of (W4.row _ _ hr)) (at_lsF (L.lt p hpm)) ?_
        wtm_at "rd"
        have nt2 : t2 ≠ d := fun z => by rw [z] at h_t2; rw [h_t2] at hd4; cases hd4
        have m1 : (i + 1) * cnt lq ≤ (lq + 1) * cnt lq := Nat.mul_le_mul_right _ (by omega)
        have m2 : (i + 1) * cnt lq = i * cnt lq + cnt lq := Nat.succ_mul ..
        have m3 : cnt l.length = 1 + (lq + 1) * cnt lq := by rw [hlq]; rfl
        refine ⟨a, t2, d, n, w, rows, others l p, kvs2, rfl, by omega, n6, W4, nad, ndr, h_t2, nt2, L.oth p, hd4, mo2, by rw [show (others l p).length = lq by omega]; omega, fun H5 kvs5 hd5 mo5 le5 b5 => ?_⟩
        rw [show (others l p).length = lq by omega] at le5
        have hs5 := b5 _ _ hs4 nsd
        wtm_at "rd"
        refine r_app hs5 (small1000 (by rw [List.length_map, List.length_map, List.length_take]; omega)) ?_
        wtm_at "rd"
        refine ⟨_, _, _, kvs5, rfl, ?_, (upd_ne nsd.symm).trans hd5, mo5, by omega, fun b o e nb => (upd_ne (ne_of_none e n_sm0)).trans (b5 b o (b4 b o e nb) nb)⟩
        rw [upd_same, List.take_add_one, hp, List.map_append, List.map_append]
        rfl
      · rintro σ H2 ⟨y5, y6, y7, kvs2, rfl, hs2, hd2, mo2, le2, b2⟩
        have el : (plV l).length = l.length := List.length_map ..
        rw [el, List.take_length] at hs2
        rw [el] at le2
        have ht2 := b2 _ _ ht0 ntd
        rw [plKy_V] at ht2
        have m3 : cnt l.length = 1 + (lq + 1) * cnt lq := by rw [hlq]; rfl
        rw [hlq] at le2
        wtm_at "rd"
        refine ⟨sm, l.map fun p => w (n - l.length) p + bst w n (others l p), rfl, SqL.of hs2, by rw [List.length_map]; omega, fun ns' so hperm hpw n_so => ?_⟩
        have hln : ns'.length = l.length := by rw [hperm.length_eq, List.length_map]
        wtm_at "rd"
        refine r_ixL (SqL.of upd_same) (ati_last (ns := ns') (by omega)) ?_
        rw [last_max hperm hpw (by omega), ← bst_cons L hlq]
        have s_so := same_new (o := .lst (ns'.map V.int)) n_so
        revert s_so
        generalize upd H2 so _ = H3
        intro s_so
        have hd3 := s_so _ _ hd2
        have ht3 := s_so _ _ ht2
        wtm_at "rd"
        refine r_dputT hd3 ht3 (by omega) ?_
        wtm_at "rd"
        have ht4 : (upd H3 d (.dT (putK kvs2 (plKy l) (.int (bst w n l))))) t = some (.tup ((plKy l).map kV)) := (upd_ne ntd).trans ht3
        refine r_dgetT upd_same ht4 (v := .int (bst w n l)) (by rw [valV_put, if_pos rfl]) ?_
        refine q _ _ upd_same ⟨fun l' v hv => ?_⟩ (Nat.le_trans putT_len (by omega)) (fun b o e nb => (upd_ne nb).trans (s_so _ _ (b2 b o e nb)))
        rw [valV_put] at hv
        split at hv
        · next z => rw [plKy_inj z]; cases hv; rfl
        · exact mo2.ok l' v hv
end

open Hg
theorem copied {H H1 : Hp} {a D : Addr} {n : Nat} {w : Nat → Nat → Int} {rows us : List Addr} (W : WAt H a n w rows) (lu : us.length = n) (hD : H1 D = some (.lst (us.map V.ref))) (hu : ∀ (j : Nat) (u : Addr) (x : V), us[j]? = some u → (rows.map V.ref)[j]? = some x → H1 u = some (.lst (itemsOf H x))) : WAt H1 D n w us := ⟨hD, lu, fun i r hr => by
  have hi : i < rows.length := by rw [W.len, ← lu]; exact (List.getElem?_eq_some_iff.mp hr).1
  have z := hu i r (.ref rows[i]) hr (by rw [List.getElem?_map, List.getElem?_eq_getElem hi]; rfl)
  rw [items_lst (W.row i _ (List.getElem?_eq_getElem hi))] at z
  exact z⟩
theorem WAt.ext {H H' : Hp} {d c r a : Addr} {n : Nat} {w : Nat → Nat → Int} {rows : List Addr} (h : WAt H a n w rows) (m : NoD d c r a rows) (s : Ext d r H H') : WAt H' a n w rows := ⟨s _ _ h.ls m.1.1 m.1.2.1, h.len, fun i b hb => s _ _ (h.row i b hb) (m.2 b (List.mem_of_getElem? hb)).1 (m.2 b (List.mem_of_getElem? hb)).2.1⟩
theorem lc_lstsR {σ : L2.St} {H : Hp} {Q : VK} {te : TE} {m n : Nat} {lo : Int} (f : Nat → List V) (hm : m ≤ 1000)
    (he : ∀ (i : Nat) (H' : Hp) (QQ : VK), i < m → Same H H' → (∀ u, H' u = none → QQ (.ref u) (upd H' u (.lst (f i)))) → te ((wipe σ [n]).set n (some (.int (lo + i)))) H' QQ)
    (hq : ∀ D (us : List Addr) H', H D = none → us.length = m → H' D = some (.lst (us.map V.ref)) → (∀ (j : Nat) (u : Addr), us[j]? = some u → H' u = some (.lst (f j))) → Same H H' → Q (.ref D) H') : lcGo (Itr lo m) (gName n) tYes te [n] σ Q H := by
  intro D nD
  refine lc_range (fun i H' => ∃ us : List Addr, us.length = i ∧ (∀ u ∈ us, H u = none ∧ u ≠ D) ∧ H' D = some (.lst (us.map V.ref)) ∧ (∀ (j : Nat) (u : Addr), us[j]? = some u → H' u = some (.lst (f j))) ∧ Same H H') ⟨[], rfl, fun u h => (by cases h), upd_same, fun j u h => (by cases h), same_new nD⟩ ?_ ?_
  · rintro i H4 hi ⟨us, hl, hf, hD4, hu, s4⟩
    refine ⟨wipe1, ?_⟩
    show te _ _ _
    refine he i H4 _ hi s4 fun u nu => ?_
    have uD : D ≠ u := ne_of_none hD4 nu
    have hD5 : (upd H4 u (.lst (f i))) D = some (.lst (us.map V.ref)) := (upd_ne uD).trans hD4
    refine ⟨_, hD5, small1000 (by rw [List.length_map, hl]; omega), us ++ [u], by rw [List.length_append, hl]; rfl, ?_, by rw [upd_same, List.map_append]; rfl, fun j v h1 => ?_, fun b o e => (upd_ne (ne_of_none e nD)).trans ((upd_ne (ne_of_none (s4 _ _ e) nu)).trans (s4 _ _ e))⟩
    · intro v hv
      rcases List.mem_append.mp hv with z | z
      · exact hf v z
      · rw [List.mem_singleton.mp z]
        exact ⟨s4.free nu, uD.symm⟩
    rcases Nat.lt_or_ge j us.length with hj | hj
    · rw [List.getElem?_append_left hj] at h1
      have z := hu j v h1
      have vm := List.mem_of_getElem? h1
      rw [upd_ne (hf v vm).2, upd_ne (ne_of_none z nu)]
      exact z
    · rw [List.getElem?_append_right hj] at h1
      cases hk : j - us.length with
      | zero =>
        rw [hk] at h1
        cases h1
        have : j = i := by omega
        rw [this, upd_ne uD.symm]
        exact upd_same
      | succ m => rw [hk] at h1; cases h1
  · rintro H4 ⟨us, hl, hf, hD4, hu, s4⟩
    exact hq D us H4 nD hl hD4 hu s4
theorem cut_dropR {as : List Addr} {k : Nat} (h : k ≤ as.length) : cutV (as.map V.ref) (some (k : Int)) none = (as.drop k).map V.ref := by
  unfold cutV
  rw [HT.sIx_nat, HT.sIx_none, List.length_map, Nat.min_eq_left h, ← List.map_drop, ← List.map_take, List.take_of_length_le (by rw [List.length_drop]; exact Nat.le_refl _)]
theorem cut_takeR {as : List Addr} {k : Nat} (h : k ≤ as.length) : cutV (as.map V.ref) none (some (k : Int)) = (as.take k).map V.ref := by
  unfold cutV
  rw [HT.sIx_nat, HT.sIx_none, List.length_map, Nat.min_eq_left h, List.drop_zero, Nat.sub_zero, ← List.map_take]
def addV (m : Int) : V → V
  | .int c => .int (c + m)
  | v => v
theorem add_intF {f : Nat → Int} {n : Nat} {m : Int} : (intF f n).map (addV m) = intF (fun i => f i + m) n := by
  unfold intF lsF
  rw [List.map_map]
  rfl
def ChAt (H : Hp) (n : Nat) (w : Nat → Nat → Int) (t : Addr) : Prop := ∃ (b : Addr) (w' : Nat → Nat → Int) (m : Int) (rows : List Addr), H t = some (.tup [.ref b, .int m]) ∧ WAt H b n w' rows ∧ tot n w' = tot n w + m
theorem ChAt.same {H H' : Hp} {n : Nat} {w : Nat → Nat → Int} {t : Addr} (h : ChAt H n w t) (s : Same H H') : ChAt H' n w t := by
  obtain ⟨b, w', m, rows, h1, h2, h3⟩ := h
  exact ⟨b, w', m, rows, s _ _ h1, h2.same s, h3⟩
def colV (H : Hp) (i : Nat) (v : V) : V := ((itemsOf H v)[i]?).getD .non
theorem colV_at {H : Hp} {r : Addr} {f : Nat → Int} {n i : Nat} (h : H r = some (.lst (intF f n))) (hi : i < n) : colV H i (.ref r) = .int (f i) := by
  unfold colV
  rw [items_lst h, intF, lsF_get hi]
  rfl
theorem cols {H : Hp} {a : Addr} {n i : Nat} {w : Nat → Nat → Int} {rows : List Addr} (W : WAt H a n w rows) (hi : i < n) : (rows.map V.ref).map (colV H i) = intF (fun j => w j i) n := by
  refine List.ext_getElem? fun j => ?_
  rw [List.getElem?_map, List.getElem?_map]
  by_cases hj : j < n
  · have hr : rows[j]? = some (rows[j]'(by rw [W.len]; exact hj)) := List.getElem?_eq_getElem _
    rw [hr, intF, lsF_get hj]
    show some (colV H i (.ref _)) = _
    rw [colV_at (W.row j _ hr) hi]
  · rw [List.getElem?_eq_none (by rw [W.len]; omega), List.getElem?_eq_none (by rw [intF, lsF_len]; omega)]
    rfl
def spChanged : Sp := fun vs H Q _ => ∃ (d c r a : Addr) (n : Nat) (w : Nat → Nat → Int) (rows : List Addr), vs = [.ref d, .ref a] ∧ Drw H d c r ∧ WAt H a n w rows ∧ 0 < n ∧ n ≤ 6 ∧ NoD d c r a rows ∧
  ∀ (l : Addr) (ts : List Addr) (H' : Hp), H' l = some (.lst (ts.map V.ref)) → ts.length = 5 → (∀ t ∈ ts, ChAt H' n w t) → Drw H' d c r → Ext d r H H' → Q (.ref l) H'
theorem rowed {H : Hp} {a nl : Addr} {n k : Nat} {w : Nat → Nat → Int} {us : List Addr} {m : Int} (W : WAt H a n w us) (na : a ∉ us) (nn : nl ≠ a) (hk : k < n) (h : H nl = some (.lst (intF (fun j => w k j + m) n))) : WAt (upd H a (.lst ((us.map V.ref).set k (.ref nl)))) a n (fun i j => w i j + if i = k then m else 0) (us.set k nl) := by
  refine ⟨by rw [upd_same, ← List.map_set], by rw [List.length_set, W.len], fun i u hu => ?_⟩
  rw [List.getElem?_set] at hu
  split at hu
  · next e =>
    subst e
    rw [if_pos (by rw [W.len]; exact hk)] at hu
    cases hu
    rw [upd_ne nn, h]
    congr 3
    funext j
    rw [if_pos rfl]
  · next e =>
    rw [upd_ne fun z => na (by rw [← z]; exact List.mem_of_getElem? hu), W.row i u hu]
    congr 3
    funext j
    rw [if_neg (Ne.symm e), Int.add_zero]
theorem rotated {H : Hp} {a b : Addr} {n k : Nat} {w : Nat → Nat → Int} {rows : List Addr} (W : WAt H a n w rows) (hk : k < n) (hb : H b = some (.lst ((rows.drop k ++ rows.take k).map V.ref))) : WAt H b n (fun i j => w (rotI n k i) j) (rows.drop k ++ rows.take k) := by
  have wl := W.len
  refine ⟨hb, by rw [List.length_append, List.length_drop, List.length_take]; omega, fun i r hr => ?_⟩
  have e : rows[rotI n k i]? = some r := by
    unfold rotI
    rcases Nat.lt_or_ge i (rows.drop k).length with c | c
    · rw [List.getElem?_append_left c, List.getElem?_drop] at hr
      rw [List.length_drop] at c
      rw [if_pos (by omega), Nat.add_comm]
      exact hr
    · rw [List.getElem?_append_right c, List.length_drop] at hr
      rw [List.length_drop] at c
      have : i - (rows.length - k) < k := by
        rcases Nat.lt_or_ge (i - (rows.length - k)) k with y | y
        · exact y
        · rw [List.getElem?_eq_none (by rw [List.length_take]; omega)] at hr; cases hr
      rw [List.getElem?_take, if_pos this] at hr
      rw [if_neg (by omega), show i + k - n = i - (rows.length - k) by omega]
      exact hr
  exact W.row _ r e
section
variable {P : Program} {w : World} {K : PySem.W.Frag} {mg : Str → Option Value} {base : Heap}

theorem ok__law_changed (T : Txt K mg) : FnOk P w K mg base CX0 2 T.f__law_changed T.d__law_changed ["_law_draws", "_law_weights_here"] spChanged := by
  refine T.F__law_changed.ok sc__law_changed (fun vs H Q E h => ?_) (fun cdv A outer s H vs Q E hr h => ?_)
  · obtain ⟨d, c, r, a, n, w, rows, rfl, _⟩ := h
    rfl
  obtain ⟨d, c, r, a, n, w, rows, rfl, D, W, n0, n6, N, q⟩ := h
  refine ⟨_, (pss_cons (ps_set (i := 2) sc__law_changed.nd rfl (by first | exact Or.inl rfl | exact Or.inr rfl) (pe_callB (r := rLenL K) (id := "len") c_len (by rfl) T.z_len (by decide +kernel) (pa_cons (pv 1) pa_nil)))
      (pss_cons (ps_set (i := 3) sc__law_changed.nd rfl (by first | exact Or.inl rfl | exact Or.inr rfl) (pe_call (ok__law_draw T) (hr.mono (by decide)) (by rfl) T.g__law_draw T.F__law_draw.kp T.b__law_draw .nil pass0 (pa_cons (pv 0) (pa_cons (pv 2) pa_nil))))
      (pss_cons (ps_set (i := 4) sc__law_changed.nd rfl (by first | exact Or.inl rfl | exact Or.inr rfl) (pe_op op_sub (pe_call (ok__law_draw T) (hr.mono (by decide)) (by rfl) T.g__law_draw T.F__law_draw.kp T.b__law_draw .nil pass0 (pa_cons (pv 0) (pa_cons pe_int pa_nil))) pe_int))
      (pss_cons (ps_setLc (i := 5) (own := [("_law_one", 7)]) (g := gName 7) (tt := tYes) rfl sc__law_changed.nd rfl rfl (sw_true rfl rfl rfl (by decide +kernel)) (pi_list (pv 1)) (blkOk_by (N := ["_law_draws", "_law_weights_here", "_law_many", "_law_at", "_law_more", "_law_row", "_law_column", "_law_one", "_law_turned_round", "_law_across", "_law_k"]) (sc := defScope s__law_changed) (by decide +kernel)) (fun _ _ _ _ _ => pg_name (i := 7) sc__law_changed.nd rfl (by first | exact Or.inl rfl | exact Or.inr rfl)) (fun _ _ _ _ _ => pts_nil) (fun _ _ _ _ _ => (pe_callTy (r := rListA K) (T := "list") c_listA (by rfl) T.z_list (by decide +kernel) (pa_cons (pv 7) pa_nil))))
      (pss_cons (ps_asg (pe_lc (own := [("_law_one", 7)]) (g := gName 7) (tt := tYes) rfl sc__law_changed.nd (pi_list (pe_ix (r := rIxL K) ix_list (pv 5) (pv 3) (fun _ _ => rfl))) (blkOk_by (N := ["_law_draws", "_law_weights_here", "_law_many", "_law_at", "_law_more", "_law_row", "_law_column", "_law_one", "_law_turned_round", "_law_across", "_law_k"]) (sc := defScope s__law_changed) (by decide +kernel)) (fun _ _ _ _ _ => pg_name (i := 7) sc__law_changed.nd rfl (by first | exact Or.inl rfl | exact Or.inr rfl)) (fun _ _ _ _ _ => pts_nil) (fun _ _ _ _ _ => (pe_op op_add (pv 7) (pv 4)))) (pg_sub (pv 5) (pv 3) set_list))
      (pss_cons (ps_setLc (i := 6) (own := [("_law_one", 7)]) (g := gName 7) (tt := tYes) rfl sc__law_changed.nd rfl rfl (sw_true rfl rfl rfl (by decide +kernel)) (pi_list (pv 1)) (blkOk_by (N := ["_law_draws", "_law_weights_here", "_law_many", "_law_at", "_law_more", "_law_row", "_law_column", "_law_one", "_law_turned_round", "_law_across", "_law_k"]) (sc := defScope s__law_changed) (by decide +kernel)) (fun _ _ _ _ _ => pg_name (i := 7) sc__law_changed.nd rfl (by first | exact Or.inl rfl | exact Or.inr rfl)) (fun _ _ _ _ _ => pts_nil) (fun _ _ _ _ _ => (pe_callTy (r := rListA K) (T := "list") c_listA (by rfl) T.z_list (by decide +kernel) (pa_cons (pv 7) pa_nil))))
      (pss_cons (ps_for PassesOwn.never rfl (pi_list (pv 6)) (pg_name (i := 7) sc__law_changed.nd rfl (by first | exact Or.inl rfl | exact Or.inr rfl)) (pss_one (ps_asg (pe_op op_add (pe_ix (r := rIxL K) ix_list (pv 7) (pv 3) (fun _ _ => rfl)) (pv 4)) (pg_sub (pv 7) (pv 3) set_list))))
      (pss_cons (ps_set (i := 8) sc__law_changed.nd rfl (by first | exact Or.inl rfl | exact Or.inr rfl) (pe_op op_cat (pe_slice sl_list (pv 1) (po_some (pv 3)) po_none) (pe_slice sl_list (pv 1) po_none (po_some (pv 3)))))
      (pss_cons (ps_setLc (i := 9) (own := [("_law_k", 10)]) (g := gName 10) (tt := tYes) rfl sc__law_changed.nd rfl rfl (sw_true rfl rfl rfl (by decide +kernel)) (pi_range1 (by rfl) T.z_range (pa_cons (pv 2) pa_nil)) (blkOk_by (N := ["_law_draws", "_law_weights_here", "_law_many", "_law_at", "_law_more", "_law_row", "_law_column", "_law_one", "_law_turned_round", "_law_across", "_law_k"]) (sc := defScope s__law_changed) (by decide +kernel)) (fun _ _ _ _ _ => pg_name (i := 10) sc__law_changed.nd rfl (by first | exact Or.inl rfl | exact Or.inr rfl)) (fun _ _ _ _ _ => pts_nil) (fun _ _ _ _ _ => (pe_lc (own := [("_law_one", 7)]) (g := gName 7) (tt := tYes) rfl sc__law_changed.nd (pi_listK (K := K) (pv 1)) (blkOk_by (by kernel_rfl)) (fun _ _ _ _ _ => pg_name (i := 7) sc__law_changed.nd rfl (by first | exact Or.inl rfl | exact Or.inr rfl)) (fun _ _ _ _ _ => pts_nil) (fun _ _ _ _ _ => (pe_ix (r := rIxL K) ix_list (pv 7) (pv 10) (fun _ _ => rfl))))))
      (pss_one (ps_ret (pe_lst (pa_cons (pe_tup (pa_cons (pv 5) (pa_cons (pv 4) pa_nil))) (pa_cons (pe_tup (pa_cons (pv 6) (pa_cons (pv 4) pa_nil))) (pa_cons (pe_tup (pa_cons (pv 8) (pa_cons pe_int pa_nil))) (pa_cons (pe_tup (pa_cons (pv 9) (pa_cons pe_int pa_nil))) (pa_cons (pe_tup (pa_cons (pv 1) (pa_cons pe_int pa_nil))) pa_nil))))))))))))))))), ?_⟩
  try simp only [nox_K, cx_K]
  have wl := W.len
  wtm_at "rd"
  refine r_lenR W.ls ?_
  rw [wl]
  wtm_at "rd"
  refine ⟨d, c, r, (n : Int), rfl, D, by omega, by omega, fun kk H1 k0 k1 D1 E1 => ?_⟩
  obtain ⟨k, rfl⟩ : ∃ k : Nat, kk = (k : Int) := ⟨kk.toNat, by omega⟩
  have hk : k < n := by omega
  have W := W.ext N E1
  wtm_at "rd"
  refine ⟨d, c, r, 2001, rfl, D1, by decide, by decide, fun m0 H2 _ _ D2 E2 => ?_⟩
  have W := W.ext N E2
  have W2 := W
  have E2 := E1.trans E2
  wtm_at "rd"
  generalize m0 - 1000 = m
  refine r_itl (SqL.of W.ls) ?_
  refine lc_lsts (itemsOf H2) (SqL.of W.ls) (by rw [List.length_map]; omega) (fun v H' QQ hv s' hQ => ?_) fun rw_ us H3 n_rw_ l_us nd_us f_us h_rw_ h_us s3 => ?_
  · obtain ⟨r, hr, rfl⟩ := List.mem_map.mp hv
    obtain ⟨j, hj⟩ := List.getElem?_of_mem hr
    have hrr := W.row j r hj
    rw [items_lst hrr] at hQ
    wtm_at "rd"
    exact r_listA (.inl (SqL.of (s' _ _ hrr))) hQ
  rw [List.length_map, W.len] at l_us
  have Wr := copied W l_us h_rw_ h_us

  have W := W.same s3
  have D3 := D2.same s3
  have E3 := E2.trans (Ext.of s3)
  wtm_at "rd"
  have hu : us[k]? = some (us[k]'(by rw [l_us]; exact hk)) := List.getElem?_eq_getElem _
  refine r_ixL (SqL.of Wr.ls) (atI_nat (by rw [List.getElem?_map, hu]; rfl)) ?_
  refine r_itl (SqL.of (Wr.row k _ hu)) ?_
  refine lc_map (addV m) (SqL.of (Wr.row k _ hu)) (by rw [intF, lsF_len]; omega) (fun v H' QQ hv s' hQ => ?_) fun nl n_nl => ?_
  · obtain ⟨j, hj, rfl⟩ := List.mem_map.mp hv
    wtm_at "rd"
    exact hQ
  rw [add_intF]
  generalize eq_nl : upd _ nl _ = H4
  have s_nl : Same _ H4 := eq_nl ▸ same_new n_nl
  have h_nl : H4 nl = some _ := eq_nl ▸ upd_same
  clear eq_nl
  have W := W.same s_nl
  have Wr := Wr.same s_nl
  have D3 := D3.same s_nl
  have E3 := E3.trans (Ext.of s_nl)
  wtm_at "rd"
  refine r_setL (n := k) Wr.ls (by rw [ixn_in (by omega) (by rw [List.length_map, l_us]; omega), Int.toNat_natCast]) ?_
  have na_us : rw_ ∉ us := fun z => (f_us _ z).2 rfl
  have Wr5 := rowed (m := m) Wr na_us (ne_of_none h_rw_ n_nl).symm hk h_nl
  have o_rw : H2 rw_ = none := n_rw_
  have s5' : Same H2 (upd H4 rw_ (.lst ((us.map V.ref).set k (.ref nl)))) := fun b o e => (upd_ne (ne_of_none e o_rw)).trans (s_nl _ _ (s3 _ _ e))
  revert Wr5 s5'
  generalize upd H4 rw_ _ = H5
  intro Wr s5
  have W := W2.same s5
  have D5 := D2.same s5
  have E5 := E2.trans (Ext.of s5)
  wtm_at "rd"
  refine r_itl (SqL.of W.ls) ?_
  refine lc_lsts (itemsOf H5) (SqL.of W.ls) (by rw [List.length_map]; omega) (fun v H' QQ hv s' hQ => ?_) fun cl vs H6 n_cl l_vs nd_vs f_vs h_cl h_vs s6 => ?_
  · obtain ⟨r, hr, rfl⟩ := List.mem_map.mp hv
    obtain ⟨j, hj⟩ := List.getElem?_of_mem hr
    have hrr := W.row j r hj
    rw [items_lst hrr] at hQ
    wtm_at "rd"
    exact r_listA (.inl (SqL.of (s' _ _ hrr))) hQ
  rw [List.length_map, W.len] at l_vs
  have Wc := copied W l_vs h_cl h_vs

  have W6 := W.same s6
  wtm_at "rd"
  refine r_for (r_il ?_)
  wtm_at "rd"
  refine ⟨cl, rfl, ⟨_, SqL.of Wc.ls⟩, ?_⟩
  have na_vs : cl ∉ vs := fun z => (f_vs _ z).2 rfl
  refine for_list (K := K) (a := cl) (xs := vs.map V.ref) (fun i σ H' => ∃ (y7 y8 y9 y10 : Option V), σ = [some (.ref d), some (.ref a), some (.int (n : Int)), some (.int (k : Int)), some (.int m), some (.ref rw_), some (.ref cl), y7, y8, y9, y10] ∧ Same H5 H' ∧ H' cl = some (.lst (vs.map V.ref)) ∧ ∀ (j : Nat) (u : Addr), vs[j]? = some u → H' u = some (.lst (intF (fun b => w j b + if b = k ∧ j < i then m else 0) n))) ⟨_, _, _, _, rfl, s6, Wc.ls, fun j u hu => by
      rw [Wc.row j u hu]
      congr 3
      funext b
      rw [if_neg (fun z => absurd z.2 (by omega)), Int.add_zero]⟩ (fun i σ H' _ ⟨_, _, _, _, _, _, h, _⟩ => SqL.of h) ?_ ?_
  · rintro i v σ H7 hv ⟨y7, y8, y9, y10, rfl, s7, hc7, hr7⟩
    rw [List.getElem?_map] at hv
    obtain ⟨u, hu, rfl⟩ := Option.map_eq_some_iff.mp hv
    have hrow := hr7 i u hu
    wtm_at "rd"
    refine r_ixL (SqL.of hrow) (at_lsF hk) ?_
    wtm_at "rd"
    refine r_setL (n := k) hrow (ixn_lsF hk) ?_
    rw [set_intF]
    have uf := f_vs u (List.mem_of_getElem? hu)
    refine ⟨_, _, _, _, rfl, fun b o e => (upd_ne (ne_of_none e uf.1)).trans (s7 b o e), (upd_ne (Ne.symm uf.2)).trans hc7, fun j u' hu' => ?_⟩
    by_cases e : j = i
    · subst e
      rw [hu] at hu'
      cases hu'
      rw [upd_same]
      congr 2
      refine lsF_congr fun b _ => ?_
      by_cases eb : b = k
      · rw [eb, fset_same]
        show V.int (w j k + (if k = k ∧ j < j then m else 0) + m) = V.int (w j k + if k = k ∧ j < j + 1 then m else 0)
        rw [if_neg (fun z => absurd z.2 (by omega)), if_pos ⟨rfl, by omega⟩, Int.add_zero]
      · rw [fset_ne eb]
        show V.int (w j b + if b = k ∧ j < j then m else 0) = V.int (w j b + if b = k ∧ j < j + 1 then m else 0)
        rw [if_neg (fun z => eb z.1), if_neg (fun z => eb z.1)]
    · have ne : u' ≠ u := fun z => by
        rw [z] at hu'
        have hj' := (List.getElem?_eq_some_iff.mp hu').1
        exact e ((List.getElem?_inj hj' nd_vs).mp (hu'.trans hu.symm))
      rw [upd_ne ne, hr7 j u' hu']
      congr 3
      funext b
      by_cases c : j < i
      · by_cases eb : b = k
        · rw [if_pos ⟨eb, c⟩, if_pos ⟨eb, by omega⟩]
        · rw [if_neg (fun z => eb z.1), if_neg (fun z => eb z.1)]
      · rw [if_neg (fun z => c z.2), if_neg (fun z => absurd z.2 (by omega))]
  rintro σ H7 ⟨y7, y8, y9, y10, rfl, s7, hc7, hr7⟩
  have Wc : WAt H7 cl n (fun i j => w i j + if j = k then m else 0) vs := ⟨hc7, l_vs, fun j u hu => by
    have hj : j < n := by rw [← l_vs]; exact (List.getElem?_eq_some_iff.mp hu).1
    rw [hr7 j u hu]
    congr 3
    funext b
    by_cases eb : b = k
    · rw [if_pos ⟨eb, by rw [List.length_map, l_vs]; exact hj⟩, if_pos eb]
    · rw [if_neg (fun z => eb z.1), if_neg eb]⟩
  have W := W.same s7
  have Wr := Wr.same s7
  have D7 := D5.same s7
  have E7 := E5.trans (Ext.of s7)
  wtm_at "rd"
  refine r_slL (SqL.of W.ls) fun c1 n_c1 => ?_
  rw [cut_dropR (by omega)]
  generalize eq_c1 : upd _ c1 _ = H8
  have s_c1 : Same _ H8 := eq_c1 ▸ same_new n_c1
  have h_c1 : H8 c1 = some _ := eq_c1 ▸ upd_same
  clear eq_c1
  have W := W.same s_c1
  have Wr := Wr.same s_c1
  have Wc := Wc.same s_c1
  have D7 := D7.same s_c1
  have E7 := E7.trans (Ext.of s_c1)
  wtm_at "rd"
  refine r_slL (SqL.of W.ls) fun c2 n_c2 => ?_
  rw [cut_takeR (by omega)]
  generalize eq_c2 : upd _ c2 _ = H9
  have s_c2 : Same _ H9 := eq_c2 ▸ same_new n_c2
  have h_c2 : H9 c2 = some _ := eq_c2 ▸ upd_same
  clear eq_c2
  have W := W.same s_c2
  have Wr := Wr.same s_c2
  have Wc := Wc.same s_c2
  have D7 := D7.same s_c2
  have E7 := E7.trans (Ext.of s_c2)
  have h_c1 := s_c2 _ _ h_c1
  refine ⟨c1, c2, _, _, rfl, rfl, h_c1, h_c2, Nat.le_of_lt (small1000 (by rw [List.length_map, List.length_map, List.length_drop, List.length_take]; omega)), fun tr n_tr => ?_⟩
  rw [← List.map_append]
  generalize eq_tr : upd _ tr _ = H10
  have s_tr : Same _ H10 := eq_tr ▸ same_new n_tr
  have h_tr : H10 tr = some _ := eq_tr ▸ upd_same
  clear eq_tr
  have W := W.same s_tr
  have Wr := Wr.same s_tr
  have Wc := Wc.same s_tr
  have D7 := D7.same s_tr
  have E7 := E7.trans (Ext.of s_tr)
  have Wt := rotated W hk h_tr
  wtm_at "rd"
  refine r_upto (by omega) (by omega) ?_
  refine lc_lstsR (fun i => intF (fun j => w j i) n) (by omega) (fun i H' QQ hi s' hQ => ?_) fun ac xs H11 n_ac l_xs h_ac h_xs s11 => ?_
  · rw [Int.toNat_natCast] at hi
    rw [Int.zero_add]
    have W' := W.same s'
    wtm_at "rd"
    refine r_itl (SqL.of W'.ls) ?_
    refine lc_map (colV H' i) (SqL.of W'.ls) (by rw [List.length_map]; omega) (fun v H2' QQ2 hv s2' hQ2 => ?_) fun nl2 n_nl2 => ?_
    · obtain ⟨rr, hrr, rfl⟩ := List.mem_map.mp hv
      obtain ⟨j, hj⟩ := List.getElem?_of_mem hrr
      have hrow := W'.row j rr hj
      rw [colV_at hrow hi] at hQ2
      wtm_at "rd"
      refine r_ixL (SqL.of (s2' _ _ hrow)) (at_lsF hi) ?_
      exact hQ2
    rw [cols W' hi]
    exact hQ nl2 n_nl2
  rw [Int.toNat_natCast] at l_xs
  have Wa : WAt H11 ac n (fun i j => w j i) xs := ⟨h_ac, l_xs, fun i u hu => h_xs i u hu⟩
  have W := W.same s11
  have Wr := Wr.same s11
  have Wc := Wc.same s11
  have Wt := Wt.same s11
  have D7 := D7.same s11
  have E7 := E7.trans (Ext.of s11)
  wtm_at "rd"
  refine r_new rfl fun t0 n_t0 => ?_
  generalize eq_t0 : upd _ t0 _ = G0
  have s_t0 : Same _ G0 := eq_t0 ▸ same_new n_t0
  have h_t0 : G0 t0 = some _ := eq_t0 ▸ upd_same
  clear eq_t0
  have W := W.same s_t0
  have Wr := Wr.same s_t0
  have Wc := Wc.same s_t0
  have Wt := Wt.same s_t0
  have Wa := Wa.same s_t0
  have D7 := D7.same s_t0
  have E7 := E7.trans (Ext.of s_t0)
  wtm_at "rd"
  refine r_new rfl fun t1 n_t1 => ?_
  generalize eq_t1 : upd _ t1 _ = G1
  have s_t1 : Same _ G1 := eq_t1 ▸ same_new n_t1
  have h_t1 : G1 t1 = some _ := eq_t1 ▸ upd_same
  clear eq_t1
  have W := W.same s_t1
  have Wr := Wr.same s_t1
  have Wc := Wc.same s_t1
  have Wt := Wt.same s_t1
  have Wa := Wa.same s_t1
  have D7 := D7.same s_t1
  have E7 := E7.trans (Ext.of s_t1)
  have h_t0 := s_t1 _ _ h_t0
  wtm_at "rd"
  refine r_new rfl fun t2 n_t2 => ?_
  generalize eq_t2 : upd _ t2 _ = G2
  have s_t2 : Same _ G2 := eq_t2 ▸ same_new n_t2
  have h_t2 : G2 t2 = some _ := eq_t2 ▸ upd_same
  clear eq_t2
  have W := W.same s_t2
  have Wr := Wr.same s_t2
  have Wc := Wc.same s_t2
  have Wt := Wt.same s_t2
  have Wa := Wa.same s_t2
  have D7 := D7.same s_t2
  have E7 := E7.trans (Ext.of s_t2)
  have h_t0 := s_t2 _ _ h_t0
  have h_t1 := s_t2 _ _ h_t1
  wtm_at "rd"
  refine r_new rfl fun t3 n_t3 => ?_
  generalize eq_t3 : upd _ t3 _ = G3
  have s_t3 : Same _ G3 := eq_t3 ▸ same_new n_t3
  have h_t3 : G3 t3 = some _ := eq_t3 ▸ upd_same
  clear eq_t3
  have W := W.same s_t3
  have Wr := Wr.same s_t3
  have Wc := Wc.same s_t3
  have Wt := Wt.same s_t3
  have Wa := Wa.same s_t3
  have D7 := D7.same s_t3
  have E7 := E7.trans (Ext.of s_t3)
  have h_t0 := s_t3 _ _ h_t0
  have h_t1 := s_t3 _ _ h_t1
  have h_t2 := s_t3 _ _ h_t2
  wtm_at "rd"
  refine r_new rfl fun t4 n_t4 => ?_
  generalize eq_t4 : upd _ t4 _ = G4
  have s_t4 : Same _ G4 := eq_t4 ▸ same_new n_t4
  have h_t4 : G4 t4 = some _ := eq_t4 ▸ upd_same
  clear eq_t4
  have W := W.same s_t4
  have Wr := Wr.same s_t4
  have Wc := Wc.same s_t4
  have Wt := Wt.same s_t4
  have Wa := Wa.same s_t4
  have D7 := D7.same s_t4
  have E7 := E7.trans (Ext.of s_t4)
  have h_t0 := s_t4 _ _ h_t0
  have h_t1 := s_t4 _ _ h_t1
  have h_t2 := s_t4 _ _ h_t2
  have h_t3 := s_t4 _ _ h_t3
  wtm_at "rd"
  refine r_new rfl fun ll n_ll => ?_
  generalize eq_ll : upd _ ll _ = G5
  have s_ll : Same _ G5 := eq_ll ▸ same_new n_ll
  have h_ll : G5 ll = some _ := eq_ll ▸ upd_same
  clear eq_ll
  have W := W.same s_ll
  have Wr := Wr.same s_ll
  have Wc := Wc.same s_ll
  have Wt := Wt.same s_ll
  have Wa := Wa.same s_ll
  have D7 := D7.same s_ll
  have E7 := E7.trans (Ext.of s_ll)
  have h_t0 := s_ll _ _ h_t0
  have h_t1 := s_ll _ _ h_t1
  have h_t2 := s_ll _ _ h_t2
  have h_t3 := s_ll _ _ h_t3
  have h_t4 := s_ll _ _ h_t4
  refine q ll [t0, t1, t2, t3, t4] G5 h_ll rfl (fun t ht => ?_) D7 E7
  simp only [List.mem_cons, List.mem_nil_iff, or_false] at ht
  rcases ht with rfl | rfl | rfl | rfl | rfl
  · exact ⟨rw_, _, m, _, h_t0, Wr, tot_row hk⟩
  · exact ⟨cl, _, m, _, h_t1, Wc, tot_col hk⟩
  · exact ⟨tr, _, 0, _, h_t2, Wt, by rw [tot_rot hk, Int.add_zero]⟩
  · exact ⟨ac, _, 0, _, h_t3, Wa, by rw [tot_tr, Int.add_zero]⟩
  · exact ⟨a, _, 0, _, h_t4, W, by rw [Int.add_zero]⟩
end

open Hg
def spLaw (K : PySem.W.Frag) : Sp := fun vs H Q _ => ∃ (a : Addr) (ns : List Int), vs = [.ref a] ∧ SqL K H a (ns.map V.int) ∧ ns.length ≤ 63 ∧ ∀ H', Q (.bl true) H'
theorem cnt6 {n : Nat} (h : n ≤ 6) : cnt n ≤ 4000 := by
  obtain rfl | rfl | rfl | rfl | rfl | rfl | rfl : n = 0 ∨ n = 1 ∨ n = 2 ∨ n = 3 ∨ n = 4 ∨ n = 5 ∨ n = 6 := by omega
  all_goals decide
theorem rg_plV {n : Nat} : rgV 0 (n : Int) = plV (List.range n) := by
  unfold rgV plV
  rw [Int.sub_zero, Int.toNat_natCast]
  refine List.map_congr_left fun k _ => ?_
  show V.int (0 + (k : Int)) = V.int (k : Int)
  rw [Int.zero_add]
section
variable {P : Program} {w : World} {K : PySem.W.Frag} {mg : Str → Option Value} {base : Heap}
/- END -/
theorem ok_law (T : Txt K mg) : FnOk P w K mg base CX0 8 T.f_law T.d_law ["_law_script"] (spLaw K) := by
  refine T.F_law.ok sc_law (fun vs H Q E h => ?_) (fun cdv A outer s H vs Q E hr h => ?_)
  · obtain ⟨a, ns, rfl, _⟩ := h
    rfl
  obtain ⟨a, ns, rfl, hS, hlen, q⟩ := h
  refine ⟨_, (pss_cons (ps_set (i := 1) sc_law.nd rfl (by first | exact Or.inl rfl | exact Or.inr rfl) (pe_call (ok__law_begin T) (hr.mono (by decide)) (by rfl) T.g__law_begin T.F__law_begin.kp T.b__law_begin .nil pass0 (pa_cons (pv 0) pa_nil)))
      (pss_cons (ps_for PassesOwn.never rfl (pi_range1 (by rfl) T.z_range (pa_cons pe_int pa_nil)) (pg_name (i := 2) sc_law.nd rfl (by first | exact Or.inl rfl | exact Or.inr rfl)) (pss_cons (ps_set (i := 3) sc_law.nd rfl (by first | exact Or.inl rfl | exact Or.inr rfl) (pe_call (ok__law_weights T) (hr.mono (by decide)) (by rfl) T.g__law_weights T.F__law_weights.kp T.b__law_weights .nil pass0 (pa_cons (pv 1) pa_nil)))
      (pss_cons (ps_set (i := 4) sc_law.nd rfl (by first | exact Or.inl rfl | exact Or.inr rfl) (pe_call (ok__law_best T 7) (hr.mono (by decide)) (by rfl) T.g__law_best T.F__law_best.kp T.b__law_best .nil pass0 (pa_cons (pv 3) (pa_cons (pe_tupRg rfl (by rfl) T.z_tuple (prg_1 (by rfl) T.z_range (pe_callB (r := rLenL K) (id := "len") c_len (by rfl) T.z_len (by decide +kernel) (pa_cons (pv 3) pa_nil)))) (pa_cons pe_dnewT pa_nil)))))
      (pss_cons (ps_if (pt_cmpR op_ne (pe_fldK (K := K) (pe_call (ok_best_matching T) (hr.mono (by decide)) (by rfl) T.g_best_matching T.F_best_matching.kp T.b_best_matching .nil pass0 (pa_cons (pe_lc (own := [("_law_row", 7)]) (g := gName 7) (tt := tYes) rfl sc_law.nd (pi_list (pv 3)) (blkOk_by (N := ["_law_script", "_law_draws", "_law_turn", "_law_weights_here", "_law_due", "_law_other", "_law_more", "_law_row"]) (sc := defScope s_law) (by decide +kernel)) (fun _ _ _ _ _ => pg_name (i := 7) sc_law.nd rfl (by first | exact Or.inl rfl | exact Or.inr rfl)) (fun _ _ _ _ _ => pts_nil) (fun _ _ _ _ _ => (pe_callTy (r := rListA K) (T := "list") c_listA (by rfl) T.z_list (by decide +kernel) (pa_cons (pv 7) pa_nil)))) pa_nil))) (pv 4) (nomark _)) (pss_one (ps_ret pe_bl)) pss_nil)
      (pss_one (ps_if (pt_cmpR op_gt (pe_callB (r := rLenL K) (id := "len") c_len (by rfl) T.z_len (by decide +kernel) (pa_cons (pv 3) pa_nil)) pe_int (nomark _)) (pss_one (ps_for PassesOwn.never rfl (pi_list (pe_call (ok__law_changed T) (hr.mono (by decide)) (by rfl) T.g__law_changed T.F__law_changed.kp T.b__law_changed .nil pass0 (pa_cons (pv 1) (pa_cons (pv 3) pa_nil)))) (pg_tup (by rfl) (pgs_cons (pg_name (i := 5) sc_law.nd rfl (by first | exact Or.inl rfl | exact Or.inr rfl)) (pgs_cons (pg_name (i := 6) sc_law.nd rfl (by first | exact Or.inl rfl | exact Or.inr rfl)) pgs_nil))) (pss_one (ps_if (pt_cmpR op_ne (pe_fldK (K := K) (pe_call (ok_best_matching T) (hr.mono (by decide)) (by rfl) T.g_best_matching T.F_best_matching.kp T.b_best_matching .nil pass0 (pa_cons (pe_lc (own := [("_law_row", 7)]) (g := gName 7) (tt := tYes) rfl sc_law.nd (pi_list (pv 5)) (blkOk_by (N := ["_law_script", "_law_draws", "_law_turn", "_law_weights_here", "_law_due", "_law_other", "_law_more", "_law_row"]) (sc := defScope s_law) (by decide +kernel)) (fun _ _ _ _ _ => pg_name (i := 7) sc_law.nd rfl (by first | exact Or.inl rfl | exact Or.inr rfl)) (fun _ _ _ _ _ => pts_nil) (fun _ _ _ _ _ => (pe_callTy (r := rListA K) (T := "list") c_listA (by rfl) T.z_list (by decide +kernel) (pa_cons (pv 7) pa_nil)))) pa_nil))) (pe_op op_add (pv 4) (pv 6)) (nomark _)) (pss_one (ps_ret pe_bl)) pss_nil)))) pss_nil))))))
      (pss_one (ps_ret pe_bl)))), ?_⟩
  try simp only [nox_K, cx_K]
  wtm_at "rd"
  refine ⟨a, ns, rfl, hS, hlen, fun d c r H1 D1 s1 nd nc nr => ?_⟩
  wtm_at "rd"
  refine r_for (r_rng1 ?_)
  wtm_at "rd"
  refine r_upto (by omega) (by omega) ?_
  refine for_range (fun i σ H' => ∃ (x2 x3 x4 x5 x6 x7 : Option V), σ = [some (.ref a), some (.ref d), x2, x3, x4, x5, x6, x7] ∧ Drw H' d c r) ⟨_, _, _, _, _, _, rfl, D1⟩ ?_ ?_
  · rintro i σ H3 hi ⟨x2, x3, x4, x5, x6, x7, rfl, D3⟩
    wtm_at "rd"
    refine ⟨d, c, r, rfl, D3, fun b n w rows H4 W n6 N D4 E4 => ?_⟩
    have wl := W.len
    wtm_at "rd"
    refine r_lenR W.ls ?_
    rw [wl]
    refine ⟨_, rfl, RgOk.of_le (by omega) (by omega) (by omega) (by omega), fun t n_t => ?_⟩
    rw [rg_plV]
    generalize eq_t : upd _ t _ = H5
    have s_t : Same _ H5 := eq_t ▸ same_new n_t
    have h_t : H5 t = some _ := eq_t ▸ upd_same
    clear eq_t
    have W := W.same s_t
    have D4 := D4.same s_t
    wtm_at "rd"
    intro dm n_dm
    generalize eq_dm : upd _ dm _ = H6
    have s_dm : Same _ H6 := eq_dm ▸ same_new n_dm
    have h_dm : H6 dm = some _ := eq_dm ▸ upd_same
    clear eq_dm
    have W := W.same s_dm
    have h_t := s_dm _ _ h_t
    have nbd : b ≠ dm := fun z => by have y := W.ls; rw [z, h_dm] at y; cases y
    have ndr : dm ∉ rows := fun z => by
      obtain ⟨j, hj⟩ := List.getElem?_of_mem z
      have y := W.row j dm hj
      rw [h_dm] at y; cases y
    have ntd : t ≠ dm := fun z => by rw [z, h_dm] at h_t; cases h_t
    wtm_at "rd"
    refine ⟨b, t, dm, n, w, rows, List.range n, [], rfl, by rw [List.length_range]; omega, n6, W, nbd, ndr, h_t, ntd, ⟨List.nodup_range, fun p hp => List.mem_range.mp hp, by rw [List.length_range]; exact Nat.le_refl _⟩, h_dm, ⟨fun l v hv => by cases hv⟩, by rw [List.length_range]; have := cnt6 n6; show 0 + cnt n ≤ 5000; omega, fun H7 kvs7 hd7 mo7 le7 b7 => ?_⟩
    rw [bst_tot]
    have W := W.but b7 nbd ndr
    have D7 : Drw H7 d c r := D4.same fun x o e => b7 x o (s_dm x o e) (ne_of_none e n_dm)
    wtm_at "rd"
    refine r_itl (SqL.of W.ls) ?_
    refine lc_lsts (itemsOf H7) (SqL.of W.ls) (by rw [List.length_map]; omega) (fun v H' QQ hv s' hQ => ?_) fun cp us H8 n_cp l_us nd_us f_us h_cp h_us s8 => ?_
    · obtain ⟨r, hr, rfl⟩ := List.mem_map.mp hv
      obtain ⟨j, hj⟩ := List.getElem?_of_mem hr
      have hrr := W.row j r hj
      rw [items_lst hrr] at hQ
      wtm_at "rd"
      exact r_listA (.inl (SqL.of (s' _ _ hrr))) hQ
    rw [List.length_map, W.len] at l_us
    have Wh := copied W l_us h_cp h_us

    wtm_at "rd"
    refine ⟨cp, n, w, us, rfl, Wh, by omega, fun x pl mp pp H9 s9 M _ _ => ?_⟩
    have W := W.same (s8.trans s9)
    have D9 := D7.same (s8.trans s9)
    obtain ⟨dx, ex⟩ := M.ex
    refine r_get ex T.c_Matching T.nf_Matching_total (ma_total ..) ?_
    wtm_at "rd"
    have e9 : decide (((List.range n).map fun i => w i (hPl n w i)).sum = tot n w) = true := decide_eq_true rfl
    rw [e9]
    wtm_at "rdi"
    refine r_lenR W.ls ?_
    rw [wl]
    wtm_at "rd"
    refine r_ite (fun e1 => ?_) (fun e1 => ?_)
    · wtm_at "rd"
      refine r_for (r_il ?_)
      wtm_at "rd"
      refine ⟨d, c, r, b, n, w, rows, rfl, D9, W, by omega, n6, N, fun l ts H10 hl lts hch D10 E10 => ?_⟩
      refine ⟨l, rfl, ⟨_, SqL.of hl⟩, ?_⟩
      refine for_list (K := K) (a := l) (xs := ts.map V.ref) (fun i σ H' => ∃ (x2 x5 x6 x7 : Option V), σ = [some (.ref a), some (.ref d), x2, some (.ref b), some (.int (tot n w)), x5, x6, x7] ∧ Same H10 H') ⟨_, _, _, _, rfl, Same.refl _⟩ (fun i σ H' _ ⟨_, _, _, _, _, s⟩ => SqL.of (s _ _ hl)) ?_ ?_
      · rintro j v σ H11 hv ⟨x2, x5, x6, x7, rfl, s11⟩
        rw [List.getElem?_map] at hv
        obtain ⟨t5, ht5, rfl⟩ := Option.map_eq_some_iff.mp hv
        obtain ⟨b2, w2, m2, rows2, h2, W2, e2⟩ := (hch t5 (List.mem_of_getElem? ht5)).same s11
        have wl2 := W2.len
        refine r_gtup (SqT.of h2) rfl ?_
        wtm_at "rd"
        refine r_itl (SqL.of W2.ls) ?_
        refine lc_lsts (itemsOf H11) (SqL.of W2.ls) (by rw [List.length_map]; omega) (fun v H' QQ hv s' hQ => ?_) fun cp2 us2 H12 n_cp2 l_us2 nd_us2 f_us2 h_cp2 h_us2 s12 => ?_
        · obtain ⟨r, hr, rfl⟩ := List.mem_map.mp hv
          obtain ⟨j, hj⟩ := List.getElem?_of_mem hr
          have hrr := W2.row j r hj
          rw [items_lst hrr] at hQ
          wtm_at "rd"
          exact r_listA (.inl (SqL.of (s' _ _ hrr))) hQ
        rw [List.length_map, W2.len] at l_us2
        have Wh2 := copied W2 l_us2 h_cp2 h_us2

        wtm_at "rd"
        refine ⟨cp2, n, w2, us2, rfl, Wh2, by omega, fun x3 pl3 mp3 pp3 H13 s13 M3 _ _ => ?_⟩
        obtain ⟨dx3, ex3⟩ := M3.ex
        refine r_get ex3 T.c_Matching T.nf_Matching_total (ma_total ..) ?_
        wtm_at "rd"
        have e10 : decide (((List.range n).map fun i => w2 i (hPl n w2 i)).sum = tot n w + m2) = true := decide_eq_true e2
        rw [e10]
        wtm_at "rdi"
        exact ⟨_, _, _, _, rfl, s11.trans (s12.trans s13)⟩
      · rintro σ H11 ⟨x2, x5, x6, x7, rfl, s11⟩
        exact ⟨_, _, _, _, _, _, rfl, D10.same s11⟩
    · wtm_at "rdi"
      exact ⟨_, _, _, _, _, _, rfl, D9⟩
  · rintro σ H3 ⟨x2, x3, x4, x5, x6, x7, rfl, D3⟩
    wtm_at "rd"
    exact q _
end
theorem all_mk {l : PySem.W.OpenLaw} {w : World} {K : PySem.W.Frag} {h : Heap} {mg : Str → Option Value} {fa : Addr} (X : K.In h) (G : h.Ns mainGlobals mg) (hfa : mg "law" = some (.ref fa))
    {C_Matching : Addr}
    {C_Search : Addr}
    {od0 an0 : Option Addr} {sl0 : Array (Option Value)} {oc0 kV0 dc0 pm0 cd0 ct0 : Value} {f0 : Addr}
    {od1 an1 : Option Addr} {sl1 : Array (Option Value)} {oc1 kV1 dc1 pm1 cd1 ct1 : Value} {f1 : Addr}
    {od2 an2 : Option Addr} {sl2 : Array (Option Value)} {oc2 kV2 dc2 pm2 cd2 ct2 : Value} {f2 : Addr}
    {od3 an3 : Option Addr} {sl3 : Array (Option Value)} {oc3 kV3 dc3 pm3 cd3 ct3 : Value} {f3 : Addr}
    {od4 an4 : Option Addr} {sl4 : Array (Option Value)} {oc4 kV4 dc4 pm4 cd4 ct4 : Value} {f4 : Addr}
    {od5 an5 : Option Addr} {sl5 : Array (Option Value)} {oc5 kV5 dc5 pm5 cd5 ct5 : Value} {f5 : Addr}
    {od6 an6 : Option Addr} {sl6 : Array (Option Value)} {oc6 kV6 dc6 pm6 cd6 ct6 : Value} {f6 : Addr}
    {od7 an7 : Option Addr} {sl7 : Array (Option Value)} {oc7 kV7 dc7 pm7 cd7 ct7 : Value} {f7 : Addr}
    {od8 an8 : Option Addr} {sl8 : Array (Option Value)} {oc8 kV8 dc8 pm8 cd8 ct8 : Value} {f8 : Addr}
    {od9 an9 : Option Addr} {sl9 : Array (Option Value)} {oc9 kV9 dc9 pm9 cd9 ct9 : Value} {f9 : Addr}
    {od10 an10 : Option Addr} {sl10 : Array (Option Value)} {oc10 kV10 dc10 pm10 cd10 ct10 : Value} {f10 : Addr}
    {od11 an11 : Option Addr} {sl11 : Array (Option Value)} {oc11 kV11 dc11 pm11 cd11 ct11 : Value} {f11 : Addr}
    (aC_Matching : PySem.W.nsIn K mainGlobals "Matching" = some (some (.ref C_Matching)))
    (aC_Search : PySem.W.nsIn K mainGlobals "Search" = some (some (.ref C_Search)))
    (a0 : PySem.W.findIn K (.ref C_Matching) "__init__" = some (some (.ref f0)))
    (i0 : PySem.W.isFn K (.ref f0) = true)
    (l0 : K.lookup f0 = some ⟨oc0, od0, .func (PySem.W.fnOf "__init__" "Matching.__init__" (defArgs s_Matching___init__) (defBody s_Matching___init__) (defScope s_Matching___init__) .none kV0 dc0 pm0 an0 cd0 ct0), sl0⟩)
    (c0 : PySem.W.codeIn K cd0 "Matching.__init__" = true)
    (k0 : PySem.W.keepIn K (.ref f0) = true)
    (a1 : PySem.W.findIn K (.ref C_Search) "__init__" = some (some (.ref f1)))
    (i1 : PySem.W.isFn K (.ref f1) = true)
    (l1 : K.lookup f1 = some ⟨oc1, od1, .func (PySem.W.fnOf "__init__" "Search.__init__" (defArgs s_Search___init__) (defBody s_Search___init__) (defScope s_Search___init__) .none kV1 dc1 pm1 an1 cd1 ct1), sl1⟩)
    (c1 : PySem.W.codeIn K cd1 "Search.__init__" = true)
    (k1 : PySem.W.keepIn K (.ref f1) = true)
    (a2 : PySem.W.findIn K (.ref C_Search) "slack" = some (some (.ref f2)))
    (i2 : PySem.W.isFn K (.ref f2) = true)
    (l2 : K.lookup f2 = some ⟨oc2, od2, .func (PySem.W.fnOf "slack" "Search.slack" (defArgs s_Search_slack) (defBody s_Search_slack) (defScope s_Search_slack) .none kV2 dc2 pm2 an2 cd2 ct2), sl2⟩)
    (c2 : PySem.W.codeIn K cd2 "Search.slack" = true)
    (k2 : PySem.W.keepIn K (.ref f2) = true)
    (a3 : PySem.W.findIn K (.ref C_Search) "shift" = some (some (.ref f3)))
    (i3 : PySem.W.isFn K (.ref f3) = true)
    (l3 : K.lookup f3 = some ⟨oc3, od3, .func (PySem.W.fnOf "shift" "Search.shift" (defArgs s_Search_shift) (defBody s_Search_shift) (defScope s_Search_shift) .none kV3 dc3 pm3 an3 cd3 ct3), sl3⟩)
    (c3 : PySem.W.codeIn K cd3 "Search.shift" = true)
    (k3 : PySem.W.keepIn K (.ref f3) = true)
    (a4 : PySem.W.findIn K (.ref C_Search) "add_member" = some (some (.ref f4)))
    (i4 : PySem.W.isFn K (.ref f4) = true)
    (l4 : K.lookup f4 = some ⟨oc4, od4, .func (PySem.W.fnOf "add_member" "Search.add_member" (defArgs s_Search_add_member) (defBody s_Search_add_member) (defScope s_Search_add_member) .none kV4 dc4 pm4 an4 cd4 ct4), sl4⟩)
    (c4 : PySem.W.codeIn K cd4 "Search.add_member" = true)
    (k4 : PySem.W.keepIn K (.ref f4) = true)
    (a5 : PySem.W.nsIn K mainGlobals "best_matching" = some (some (.ref f5)))
    (l5 : K.lookup f5 = some ⟨oc5, od5, .func (PySem.W.fnOf "best_matching" "best_matching" (defArgs s_best_matching) (defBody s_best_matching) (defScope s_best_matching) .none kV5 dc5 pm5 an5 cd5 ct5), sl5⟩)
    (c5 : PySem.W.codeIn K cd5 "best_matching" = true)
    (k5 : PySem.W.keepIn K (.ref f5) = true)
    (a6 : PySem.W.nsIn K mainGlobals "_law_begin" = some (some (.ref f6)))
    (l6 : K.lookup f6 = some ⟨oc6, od6, .func (PySem.W.fnOf "_law_begin" "_law_begin" (defArgs s__law_begin) (defBody s__law_begin) (defScope s__law_begin) .none kV6 dc6 pm6 an6 cd6 ct6), sl6⟩)
    (c6 : PySem.W.codeIn K cd6 "_law_begin" = true)
    (k6 : PySem.W.keepIn K (.ref f6) = true)
    (a7 : PySem.W.nsIn K mainGlobals "_law_draw" = some (some (.ref f7)))
    (l7 : K.lookup f7 = some ⟨oc7, od7, .func (PySem.W.fnOf "_law_draw" "_law_draw" (defArgs s__law_draw) (defBody s__law_draw) (defScope s__law_draw) .none kV7 dc7 pm7 an7 cd7 ct7), sl7⟩)
    (c7 : PySem.W.codeIn K cd7 "_law_draw" = true)
    (k7 : PySem.W.keepIn K (.ref f7) = true)
    (a8 : PySem.W.nsIn K mainGlobals "_law_weights" = some (some (.ref f8)))
    (l8 : K.lookup f8 = some ⟨oc8, od8, .func (PySem.W.fnOf "_law_weights" "_law_weights" (defArgs s__law_weights) (defBody s__law_weights) (defScope s__law_weights) .none kV8 dc8 pm8 an8 cd8 ct8), sl8⟩)
    (c8 : PySem.W.codeIn K cd8 "_law_weights" = true)
    (k8 : PySem.W.keepIn K (.ref f8) = true)
    (a9 : PySem.W.nsIn K mainGlobals "_law_best" = some (some (.ref f9)))
    (l9 : K.lookup f9 = some ⟨oc9, od9, .func (PySem.W.fnOf "_law_best" "_law_best" (defArgs s__law_best) (defBody s__law_best) (defScope s__law_best) .none kV9 dc9 pm9 an9 cd9 ct9), sl9⟩)
    (c9 : PySem.W.codeIn K cd9 "_law_best" = true)
    (k9 : PySem.W.keepIn K (.ref f9) = true)
    (a10 : PySem.W.nsIn K mainGlobals "_law_changed" = some (some (.ref f10)))
    (l10 : K.lookup f10 = some ⟨oc10, od10, .func (PySem.W.fnOf "_law_changed" "_law_changed" (defArgs s__law_changed) (defBody s__law_changed) (defScope s__law_changed) .none kV10 dc10 pm10 an10 cd10 ct10), sl10⟩)
    (c10 : PySem.W.codeIn K cd10 "_law_changed" = true)
    (k10 : PySem.W.keepIn K (.ref f10) = true)
    (a11 : PySem.W.nsIn K mainGlobals "law" = some (some (.ref f11)))
    (l11 : K.lookup f11 = some ⟨oc11, od11, .func (PySem.W.fnOf "law" "law" (defArgs s_law) (defBody s_law) (defScope s_law) .none kV11 dc11 pm11 an11 cd11 ct11), sl11⟩)
    (c11 : PySem.W.codeIn K cd11 "law" = true)
    (k11 : PySem.W.keepIn K (.ref f11) = true)
    (z_abs : PySem.W.nsIn K mainGlobals "abs" = some none)
    (z_enumerate : PySem.W.nsIn K mainGlobals "enumerate" = some none)
    (z_int : PySem.W.nsIn K mainGlobals "int" = some none)
    (z_len : PySem.W.nsIn K mainGlobals "len" = some none)
    (z_list : PySem.W.nsIn K mainGlobals "list" = some none)
    (z_range : PySem.W.nsIn K mainGlobals "range" = some none)
    (z_sorted : PySem.W.nsIn K mainGlobals "sorted" = some none)
    (z_sum : PySem.W.nsIn K mainGlobals "sum" = some none)
    (z_tuple : PySem.W.nsIn K mainGlobals "tuple" = some none)
    (pg_Matching : PySem.W.plainGet K C_Matching Str.empty = true)
    (hd_Matching : PySem.W.hasDictIn K C_Matching = true)
    (po_Matching : PySem.W.plainOver K C_Matching = true)
    (sa_Matching : PySem.W.findIn K (.ref C_Matching) "__setattr__" = some (some (.builtin "object.__setattr__")))
    (mk_Matching : PySem.W.makesIn K C_Matching = true)
    (kc_Matching : PySem.W.keepIn K (.ref C_Matching) = true)
    (nf_Matching_places : PySem.W.findIn K (.ref C_Matching) "places" = some none)
    (nf_Matching_total : PySem.W.findIn K (.ref C_Matching) "total" = some none)
    (nf_Matching_member_prices : PySem.W.findIn K (.ref C_Matching) "member_prices" = some none)
    (nf_Matching_place_prices : PySem.W.findIn K (.ref C_Matching) "place_prices" = some none)
    (ca_Matching : PySem.W.findIn K (.ref C_Matching) "__class__" = some (some (.builtin "object.__class__")))
    (cn_Matching : PySem.W.specialIn K (.builtin "object.__class__") "__get__" = some (some (.builtin "getset_descriptor.__get__")))
    (ct_Matching : PySem.W.takesIn K (.builtin "object.__class__") = some true)
    (cm_Matching : PySem.W.mroIn K C_Matching (.type "object") = some true)
    (pg_Search : PySem.W.plainGet K C_Search Str.empty = true)
    (hd_Search : PySem.W.hasDictIn K C_Search = true)
    (po_Search : PySem.W.plainOver K C_Search = true)
    (sa_Search : PySem.W.findIn K (.ref C_Search) "__setattr__" = some (some (.builtin "object.__setattr__")))
    (mk_Search : PySem.W.makesIn K C_Search = true)
    (kc_Search : PySem.W.keepIn K (.ref C_Search) = true)
    (nf_Search_weights : PySem.W.findIn K (.ref C_Search) "weights" = some none)
    (nf_Search_many : PySem.W.findIn K (.ref C_Search) "many" = some none)
    (nf_Search_member_costs : PySem.W.findIn K (.ref C_Search) "member_costs" = some none)
    (nf_Search_place_costs : PySem.W.findIn K (.ref C_Search) "place_costs" = some none)
    (nf_Search_holders : PySem.W.findIn K (.ref C_Search) "holders" = some none)
    (ca_Search : PySem.W.findIn K (.ref C_Search) "__class__" = some (some (.builtin "object.__class__")))
    (cn_Search : PySem.W.specialIn K (.builtin "object.__class__") "__get__" = some (some (.builtin "getset_descriptor.__get__")))
    (ct_Search : PySem.W.takesIn K (.builtin "object.__class__") = some true)
    (cm_Search : PySem.W.mroIn K C_Search (.type "object") = some true)
    : ∃ fd : FuncData, (∀ (s : Shared) (v : Value), BindsTo s fd ⟨[v], []⟩ [("_law_script", v)]) ∧ ∀ base : Heap, K.In base → base.Ns mainGlobals mg → FnOk l.prog w K mg base CX0 8 fa fd ["_law_script"] (spLaw K) := by
  have e := hfa.symm.trans (PySem.W.mg_of X G a11)
  cases e
  have F0 := fun_mk (st := s_Matching___init__) l0 c0 k0
  have b0 := F0.binds (ps := ["self", "places", "total", "member_prices", "place_prices"]) fun _ _ _ _ _ _ us hl => match us, hl with | [_, _, _, _, _], _ => rfl
  have F1 := fun_mk (st := s_Search___init__) l1 c1 k1
  have b1 := F1.binds (ps := ["self", "weights"]) fun _ _ _ _ _ _ us hl => match us, hl with | [_, _], _ => rfl
  have F2 := fun_mk (st := s_Search_slack) l2 c2 k2
  have b2 := F2.binds (ps := ["self", "member", "place"]) fun _ _ _ _ _ _ us hl => match us, hl with | [_, _, _], _ => rfl
  have F3 := fun_mk (st := s_Search_shift) l3 c3 k3
  have b3 := F3.binds (ps := ["self", "used", "least", "delta"]) fun _ _ _ _ _ _ us hl => match us, hl with | [_, _, _, _], _ => rfl
  have F4 := fun_mk (st := s_Search_add_member) l4 c4 k4
  have b4 := F4.binds (ps := ["self", "member"]) fun _ _ _ _ _ _ us hl => match us, hl with | [_, _], _ => rfl
  have F5 := fun_mk (st := s_best_matching) l5 c5 k5
  have b5 := F5.binds (ps := ["weights"]) fun _ _ _ _ _ _ us hl => match us, hl with | [_], _ => rfl
  have F6 := fun_mk (st := s__law_begin) l6 c6 k6
  have b6 := F6.binds (ps := ["_law_script"]) fun _ _ _ _ _ _ us hl => match us, hl with | [_], _ => rfl
  have F7 := fun_mk (st := s__law_draw) l7 c7 k7
  have b7 := F7.binds (ps := ["_law_draws", "_law_many"]) fun _ _ _ _ _ _ us hl => match us, hl with | [_, _], _ => rfl
  have F8 := fun_mk (st := s__law_weights) l8 c8 k8
  have b8 := F8.binds (ps := ["_law_draws"]) fun _ _ _ _ _ _ us hl => match us, hl with | [_], _ => rfl
  have F9 := fun_mk (st := s__law_best) l9 c9 k9
  have b9 := F9.binds (ps := ["_law_weights_here", "_law_left", "_law_met"]) fun _ _ _ _ _ _ us hl => match us, hl with | [_, _, _], _ => rfl
  have F10 := fun_mk (st := s__law_changed) l10 c10 k10
  have b10 := F10.binds (ps := ["_law_draws", "_law_weights_here"]) fun _ _ _ _ _ _ us hl => match us, hl with | [_, _], _ => rfl
  have F11 := fun_mk (st := s_law) l11 c11 k11
  have b11 := F11.binds (ps := ["_law_script"]) fun _ _ _ _ _ _ us hl => match us, hl with | [_], _ => rfl
  let T : Txt K mg := {
    f_Matching___init__ := f0,
    d_Matching___init__ := _,
    F_Matching___init__ := F0,
    b_Matching___init__ := b0,
    f_Search___init__ := f1,
    d_Search___init__ := _,
    F_Search___init__ := F1,
    b_Search___init__ := b1,
    f_Search_slack := f2,
    d_Search_slack := _,
    F_Search_slack := F2,
    b_Search_slack := b2,
    f_Search_shift := f3,
    d_Search_shift := _,
    F_Search_shift := F3,
    b_Search_shift := b3,
    f_Search_add_member := f4,
    d_Search_add_member := _,
    F_Search_add_member := F4,
    b_Search_add_member := b4,
    f_best_matching := f5,
    d_best_matching := _,
    F_best_matching := F5,
    b_best_matching := b5,
    g_best_matching := PySem.W.mg_of X G a5,
    f__law_begin := f6,
    d__law_begin := _,
    F__law_begin := F6,
    b__law_begin := b6,
    g__law_begin := PySem.W.mg_of X G a6,
    f__law_draw := f7,
    d__law_draw := _,
    F__law_draw := F7,
    b__law_draw := b7,
    g__law_draw := PySem.W.mg_of X G a7,
    f__law_weights := f8,
    d__law_weights := _,
    F__law_weights := F8,
    b__law_weights := b8,
    g__law_weights := PySem.W.mg_of X G a8,
    f__law_best := f9,
    d__law_best := _,
    F__law_best := F9,
    b__law_best := b9,
    g__law_best := PySem.W.mg_of X G a9,
    f__law_changed := f10,
    d__law_changed := _,
    F__law_changed := F10,
    b__law_changed := b10,
    g__law_changed := PySem.W.mg_of X G a10,
    f_law := fa,
    d_law := _,
    F_law := F11,
    b_law := b11,
    g_law := PySem.W.mg_of X G a11,
    z_abs := PySem.W.mg_none_of X G z_abs,
    z_enumerate := PySem.W.mg_none_of X G z_enumerate,
    z_int := PySem.W.mg_none_of X G z_int,
    z_len := PySem.W.mg_none_of X G z_len,
    z_list := PySem.W.mg_none_of X G z_list,
    z_range := PySem.W.mg_none_of X G z_range,
    z_sorted := PySem.W.mg_none_of X G z_sorted,
    z_sum := PySem.W.mg_none_of X G z_sum,
    z_tuple := PySem.W.mg_none_of X G z_tuple,
    C_Matching := C_Matching,
    g_Matching := PySem.W.mg_of X G aC_Matching,
    c_Matching := ⟨pg_Matching, hd_Matching, po_Matching, sa_Matching⟩,
    m_Matching := ⟨mk_Matching, a0, i0, kc_Matching⟩,
    nf_Matching_places := nf_Matching_places,
    nf_Matching_total := nf_Matching_total,
    nf_Matching_member_prices := nf_Matching_member_prices,
    nf_Matching_place_prices := nf_Matching_place_prices,
    ca_Matching := ca_Matching,
    cn_Matching := cn_Matching,
    ct_Matching := ct_Matching,
    cm_Matching := cm_Matching,
    C_Search := C_Search,
    g_Search := PySem.W.mg_of X G aC_Search,
    c_Search := ⟨pg_Search, hd_Search, po_Search, sa_Search⟩,
    m_Search := ⟨mk_Search, a1, i1, kc_Search⟩,
    nf_Search_weights := nf_Search_weights,
    nf_Search_many := nf_Search_many,
    nf_Search_member_costs := nf_Search_member_costs,
    nf_Search_place_costs := nf_Search_place_costs,
    nf_Search_holders := nf_Search_holders,
    mt_Search_slack := ⟨a2, i2, k2⟩,
    mt_Search_shift := ⟨a3, i3, k3⟩,
    mt_Search_add_member := ⟨a4, i4, k4⟩,
    ca_Search := ca_Search,
    cn_Search := cn_Search,
    ct_Search := ct_Search,
    cm_Search := cm_Search }
  exact ⟨PySem.W.fnOf "law" "law" (defArgs s_law) (defBody s_law) (defScope s_law) .none kV11 dc11 pm11 an11 cd11 ct11, fun s v => .of_eq rfl, fun base _ _ => ok_law T⟩
end Wr
open PySem PySem.W PyProof.Rows
set_option maxRecDepth 100000 in
set_option maxHeartbeats 0 in
theorem PySem.Challenge.cw_windowrows_k92_whole_matchings_against_a_holds : PySem.Challenge.rw_windowrows_k92_whole_matchings_against_a.Holds := by
  w_on; o_law; k_head; (case hw => w_witness2)
  k_fill
  refine L2.walk_of (l := PySem.Challenge.rw_windowrows_k92_whole_matchings_against_a) (n := 63) (k := 8) (x := "_law_script") (CX := fun _ => L2.CX0) (sp := fun w => Wr.spLaw _) rfl (by decide) rfl ⟨rfl, by decide, by decide⟩ (fun w h Y => PySem.W.kIn_of Y) ?F (fun _ _ a ns hl _ hS => ⟨a, ns, rfl, hS, hl, fun _ => rfl⟩) (fun _ _ _ _ _ h => h)
  case F =>
    intro w mg fa h KX G hmg
    refine' Wr.all_mk KX G hmg ?aC_Matching ?aC_Search ?a0 ?i0 ?l0 ?c0 ?k0 ?a1 ?i1 ?l1 ?c1 ?k1 ?a2 ?i2 ?l2 ?c2 ?k2 ?a3 ?i3 ?l3 ?c3 ?k3 ?a4 ?i4 ?l4 ?c4 ?k4 ?a5 ?l5 ?c5 ?k5 ?a6 ?l6 ?c6 ?k6 ?a7 ?l7 ?c7 ?k7 ?a8 ?l8 ?c8 ?k8 ?a9 ?l9 ?c9 ?k9 ?a10 ?l10 ?c10 ?k10 ?a11 ?l11 ?c11 ?k11 ?z_abs ?z_enumerate ?z_int ?z_len ?z_list ?z_range ?z_sorted ?z_sum ?z_tuple ?pg_Matching ?hd_Matching ?po_Matching ?sa_Matching ?mk_Matching ?kc_Matching ?nf_Matching_places ?nf_Matching_total ?nf_Matching_member_prices ?nf_Matching_place_prices ?ca_Matching ?cn_Matching ?ct_Matching ?cm_Matching ?pg_Search ?hd_Search ?po_Search ?sa_Search ?mk_Search ?kc_Search ?nf_Search_weights ?nf_Search_many ?nf_Search_member_costs ?nf_Search_place_costs ?nf_Search_holders ?ca_Search ?cn_Search ?ct_Search ?cm_Search
    (case aC_Matching => k_is)
    (case aC_Search => k_is)
    (case a0 => k_is)
    (case i0 => k_is)
    (case l0 => k_is)
    (case c0 => k_is)
    (case k0 => k_is)
    (case a1 => k_is)
    (case i1 => k_is)
    (case l1 => k_is)
    (case c1 => k_is)
    (case k1 => k_is)
    (case a2 => k_is)
    (case i2 => k_is)
    (case l2 => k_is)
    (case c2 => k_is)
    (case k2 => k_is)
    (case a3 => k_is)
    (case i3 => k_is)
    (case l3 => k_is)
    (case c3 => k_is)
    (case k3 => k_is)
    (case a4 => k_is)
    (case i4 => k_is)
    (case l4 => k_is)
    (case c4 => k_is)
    (case k4 => k_is)
    (case a5 => k_is)
    (case l5 => k_is)
    (case c5 => k_is)
    (case k5 => k_is)
    (case a6 => k_is)
    (case l6 => k_is)
    (case c6 => k_is)
    (case k6 => k_is)
    (case a7 => k_is)
    (case l7 => k_is)
    (case c7 => k_is)
    (case k7 => k_is)
    (case a8 => k_is)
    (case l8 => k_is)
    (case c8 => k_is)
    (case k8 => k_is)
    (case a9 => k_is)
    (case l9 => k_is)
    (case c9 => k_is)
    (case k9 => k_is)
    (case a10 => k_is)
    (case l10 => k_is)
    (case c10 => k_is)
    (case k10 => k_is)
    (case a11 => k_is)
    (case l11 => k_is)
    (case c11 => k_is)
    (case k11 => k_is)
    (case z_abs => k_is)
    (case z_enumerate => k_is)
    (case z_int => k_is)
    (case z_len => k_is)
    (case z_list => k_is)
    (case z_range => k_is)
    (case z_sorted => k_is)
    (case z_sum => k_is)
    (case z_tuple => k_is)
    (case pg_Matching => k_is)
    (case hd_Matching => k_is)
    (case po_Matching => k_is)
    (case sa_Matching => k_is)
    (case mk_Matching => k_is)
    (case kc_Matching => k_is)
    (case nf_Matching_places => k_is)
    (case nf_Matching_total => k_is)
    (case nf_Matching_member_prices => k_is)
    (case nf_Matching_place_prices => k_is)
    (case ca_Matching => k_is)
    (case cn_Matching => k_is)
    (case ct_Matching => k_is)
    (case cm_Matching => k_is)
    (case pg_Search => k_is)
    (case hd_Search => k_is)
    (case po_Search => k_is)
    (case sa_Search => k_is)
    (case mk_Search => k_is)
    (case kc_Search => k_is)
    (case nf_Search_weights => k_is)
    (case nf_Search_many => k_is)
    (case nf_Search_member_costs => k_is)
    (case nf_Search_place_costs => k_is)
    (case nf_Search_holders => k_is)
    (case ca_Search => k_is)
    (case cn_Search => k_is)
    (case ct_Search => k_is)
    (case cm_Search => k_is)
